import PyProof.Rows.All
import HandS.Words
import HandS.Head0
import HandS.Head1
import HandS.Head2
import HandS.HeadHook4
import HandS.ExcField
import HandS.ExcInit
import Wide.All
import OpenK.AllK
import Wide.FinOn
import HandS.ForMost
import HandS.Exc
import HandS.Lambda
import KE.KDictKeyed
import HandS.IsInst
import HandS.Style
import HandS.TupMul
import KE.DataEq
import HandS.ExcOwn
import HandS.WordsExc
import HandS.TryOnly
import HandS.Defaults
import KE.KCompFold
import KE.GoesEnum
import HandS.Steps
import KE.DataCmp
import KE.DataMinMax
import PyProof.ReprRoads
import PyProof.ReprBulk
import PyProof.FitsInt
import HandS.ExcIs
import HandS.Conv
import HandS.OwnEq
import OpenK.KOps
import HandS.Text
import HandS.List
import PyProof.StrLawsIn
import PyProof.ListRange
import HandS.FStr
import HandS.SetTxt0
import HandS.TupSets
import KE.KCallOwn
import HandS.Flow
import HandS.RaiseMore
import HandS.Codes
import KE.KDictPairs
import KE.KDictCopyH
import HandS.DictTup
import HandS.Iter
import HandS.DictEq
import HandS.EndTab
import HandS.DictComp
import HandS.TupLen
import HandS.Finally
import PyProof.ReprNest
import HandS.More
import KE.GoesEnumKw
import HandS.SortRule
import KE.KDictDisplayH
import HandS.SortInts
import KE.KDictWalk
import HandS.Deep
import PySem.Challenge.RW_everyhead_k70_nets_written_and_read
set_option Elab.async false
set_option linter.all false
set_option maxRecDepth 100000
namespace DL
open PySem L2
section
variable {K : PySem.W.Frag}
def intAt (K : PySem.W.Frag) (a : Addr) (x : Str) (i : Int) : Bool := match PySem.W.nsIn K a x with
  | some (some (.int j _)) => decide (j = i)
  | _ => false
def strAt (K : PySem.W.Frag) (a : Addr) (x z : Str) : Bool := match PySem.W.nsIn K a x with
  | some (some (.str y _)) => decide (y = z)
  | _ => false
theorem intAt_ok {a : Addr} {x : Str} {i : Int} (c : intAt K a x i = true) : ∃ t, PySem.W.nsIn K a x = some (some (.int i t)) := by
  unfold intAt at c
  cases e : PySem.W.nsIn K a x with
  | none => rw [e] at c; cases c
  | some o =>
    rw [e] at c
    cases o with
    | none => cases c
    | some v =>
      cases v with
      | int j t =>
        have ej : j = i := of_decide_eq_true c
        exact ⟨t, by rw [ej]⟩
      | _ => cases c
theorem strAt_ok {a : Addr} {x z : Str} (c : strAt K a x z = true) : ∃ t, PySem.W.nsIn K a x = some (some (.str z t)) := by
  unfold strAt at c
  cases e : PySem.W.nsIn K a x with
  | none => rw [e] at c; cases c
  | some o =>
    rw [e] at c
    cases o with
    | none => cases c
    | some v =>
      cases v with
      | str y t =>
        have ej : y = z := of_decide_eq_true c
        exact ⟨t, by rw [ej]⟩
      | _ => cases c
theorem all_at {bs : List Bool} (h : bs.all (fun b => b) = true) (i : Nat) (b : Bool) (e : bs[i]? = some b) : b = true := List.all_eq_true.mp h b (List.mem_of_getElem? e)
theorem all_b {a b : Bool} (h : (a && b) = true) : a = true ∧ b = true := Bool.and_eq_true_iff.mp h
end
end DL
namespace He
open PySem PySem.Spec PyProof.Rows L2
def obsL (n : Nat) (fn : List DefD) (ts : List Tab) (ex : PySem.W.Frag → Bool) (g : Addr → Option Obj) : AlX := (obsT [] fn ts (frT g (List.range n)), ex (frT g (List.range n)))
def hookL (n : Nat) (fn : List DefD) (ts : List Tab) (ex : PySem.W.Frag → Bool) : PySem.W.Hook where
  α := AlX
  obs := fun s => obsL n fn ts ex s.heap.get?
  val := fun w => valX fn ts w
  says := fun w h => ∃ K : PySem.W.Frag, K.In h ∧ SaysX [] fn ts [] ex w h K
  of := fun _ _ e => ⟨_, frT_in, ⟨congrArg (fun z : AlX => z.1) e, congrArg (fun z : AlX => z.2) e, fun _ m => (nomatch m), fun _ m => (nomatch m), fun _ m => (nomatch m)⟩⟩
  keeps := fun _ _ _ ⟨K, hK, c⟩ k => ⟨K, PySem.W.Frag.In.keeps hK k, ⟨c.t, c.more, c.hd, c.out, fun p hp => k _ _ (c.empty p hp)⟩⟩
theorem obsL_eq {n : Nat} {fn : List DefD} {ts : List Tab} {ex : PySem.W.Frag → Bool} {g : Addr → Option Obj} {s : Shared} (h : ∀ a, g a = s.heap.get? a) : obsL n fn ts ex g = (hookL n fn ts ex).obs s := by
  have e : g = s.heap.get? := funext h
  rw [e] <;> rfl
end He
namespace HandSHeadRun
open PySem PySem.W PySem.Calls PyProof.Rows
noncomputable abbrev EndR (r : OpenRow) (M : Nat) (w : World) (os : OsState) : Option SharedT := endF (stepQ (denQ tabQ) r.prog w) M r.prog w os
def LookEq (r : OpenRow) (q : Program) (M : Nat) (loose : List PySem.Str) (w : World) : Prop := ∀ os : OsState, (EndR r M w os).map (fun s => (looksF r.prog (boot_heap w.params) s.abs, seenQ q loose (importedModules r.prog.main.body) (fun s => xlAt q [] s && recOk r.toRowW.records s) s.abs)) = some (true, openGood q loose)
def FnEq (r : OpenRow) (M n : Nat) (fn : List He.DefD) (ts : List He.Tab) (w : World) : Prop := ∀ os : OsState, (EndR r M w os).map (fun s => He.obsT [] fn ts (He.frT (getT s) (List.range n))) = some (He.valT fn ts w)
def ExEq (r : OpenRow) (M n : Nat) (ex : PySem.W.Frag → Bool) (w : World) : Prop := ∀ os : OsState, (EndR r M w os).map (fun s => ex (He.frT (getT s) (List.range n))) = some true
theorem run_three {r : OpenRow} {q : Program} {M n : Nat} {loose : List PySem.Str} {fn : List He.DefD} {ts : List He.Tab} {ex : PySem.W.Frag → Bool} {w : World} (h1 : LookEq r q M loose w) (h2 : FnEq r M n fn ts w) (h3 : ExEq r M n ex w) : RunEq r q (He.hookL n fn ts ex) (fun s => He.obsL n fn ts ex (getT s)) M loose w := by
  intro os
  have a := h1 os
  have b := h2 os
  have c := h3 os
  unfold EndR at a b c
  cases e : endF (stepQ (denQ tabQ) r.prog w) M r.prog w os with
  | none =>
    rw [e] at a
    cases a
  | some s =>
    rw [e] at a b c
    have a' := Option.some.inj a
    have a1 : looksF r.prog (boot_heap w.params) s.abs = true := congrArg Prod.fst a'
    have a2 : seenQ q loose (importedModules r.prog.main.body) (fun s => xlAt q [] s && recOk r.toRowW.records s) s.abs = openGood q loose := congrArg Prod.snd a'
    have b' : He.obsT [] fn ts (He.frT (getT s) (List.range n)) = He.valT fn ts w := Option.some.inj b
    have c' : ex (He.frT (getT s) (List.range n)) = true := Option.some.inj c
    have d' : He.obsL n fn ts ex (getT s) = He.valX fn ts w := Prod.ext b' c'
    exact congrArg some (Prod.ext a1 (Prod.ext a2 d'))
end HandSHeadRun

namespace MyH
open PySem PySem.Calls PyProof.Rows L2 DL
def top (i : Nat) : Stmt := PySem.Challenge.pw_everyhead_k70_nets_written_and_read.main.body.getD i (.Pass ⟨0, 0, 0, 0⟩)
abbrev R : PySem.W.OpenRow := PySem.W.OpenLaw.row PySem.Challenge.rw_everyhead_k70_nets_written_and_read
abbrev qv : Program := PySem.W.view R.prog [49]
def nm0 : List PySem.Str := ["HeadError", "NoNet", "NoText", "MOST_WIDTH", "is_whole", "is_width", "is_of", "is_pattern", "MOST_SWITCHES", "MOST_DOORS", "MOST_RULES", "MOST_OUTS", "MOST_LINKS", "is_below", "is_out", "is_rule", "look_at_switch", "is_place", "look_at_links", "look_at_net", "FIGURES", "SIGNS", "MOST_FIGURES", "shown_place", "shown_outs", "shown_rule", "shown", "number_of", "place_of", "is_signs"]
def nm1 : List PySem.Str := ["out_of", "rule_of", "Reading", "read", "_law_cell_at", "_law_pool", "_law_take", "_law_text", "_law_pattern", "_law_rule", "_law_net", "_law_spot", "_law_rule_row", "_law_written"]
def names : List PySem.Str := nm0 ++ nm1
abbrev s__law_cell_at : Stmt := top 39
abbrev s__law_pool : Stmt := top 40
abbrev s__law_take : Stmt := top 41
abbrev s__law_text : Stmt := top 42
abbrev s__law_pattern : Stmt := top 43
abbrev s__law_rule : Stmt := top 44
abbrev s__law_net : Stmt := top 45
abbrev s__law_rule_row : Stmt := top 47
abbrev s__law_spot : Stmt := top 46
abbrev s__law_written : Stmt := top 48
abbrev s_Reading___init__ : Stmt := inClass (top 36) 0
abbrev s_Reading_netM : Stmt := inClass (top 36) 6
abbrev s_number_of : Stmt := top 31
abbrev s_Reading_take_width : Stmt := inClass (top 36) 2
abbrev s_Reading_take_switch : Stmt := inClass (top 36) 3
abbrev s_place_of : Stmt := top 32
abbrev s_Reading_take_link : Stmt := inClass (top 36) 4
abbrev s_is_signs : Stmt := top 33
abbrev s_out_of : Stmt := top 34
abbrev s_rule_of : Stmt := top 35
abbrev s_Reading_take_rule : Stmt := inClass (top 36) 5
abbrev s_Reading_take : Stmt := inClass (top 36) 1
abbrev s_is_whole : Stmt := top 6
abbrev s_is_below : Stmt := top 16
abbrev s_is_place : Stmt := top 20
abbrev s_look_at_links : Stmt := top 21
abbrev s_is_width : Stmt := top 7
abbrev s_is_of : Stmt := top 8
abbrev s_is_pattern : Stmt := top 9
abbrev s_is_out : Stmt := top 17
abbrev s_is_rule : Stmt := top 18
abbrev s_look_at_switch : Stmt := top 19
abbrev s_look_at_net : Stmt := top 22
abbrev s_Reading_net : Stmt := inClass (top 36) 6
abbrev s_read : Stmt := top 37
abbrev s_shown_outs : Stmt := top 28
abbrev s_shown_rule : Stmt := top 29
abbrev s_shown_place : Stmt := top 27
abbrev s_shown : Stmt := top 30
abbrev s_law : Stmt := top 49
def d__law_cell_at : He.DefD := ⟨("_law_cell_at", none), "_law_cell_at", "_law_cell_at", defArgs s__law_cell_at, defBody s__law_cell_at, defScope s__law_cell_at, [], []⟩
def d__law_pool : He.DefD := ⟨("_law_pool", none), "_law_pool", "_law_pool", defArgs s__law_pool, defBody s__law_pool, defScope s__law_pool, [], []⟩
def d__law_take : He.DefD := ⟨("_law_take", none), "_law_take", "_law_take", defArgs s__law_take, defBody s__law_take, defScope s__law_take, [], []⟩
def d__law_text : He.DefD := ⟨("_law_text", none), "_law_text", "_law_text", defArgs s__law_text, defBody s__law_text, defScope s__law_text, [], []⟩
def d__law_pattern : He.DefD := ⟨("_law_pattern", none), "_law_pattern", "_law_pattern", defArgs s__law_pattern, defBody s__law_pattern, defScope s__law_pattern, [], []⟩
def d__law_rule : He.DefD := ⟨("_law_rule", none), "_law_rule", "_law_rule", defArgs s__law_rule, defBody s__law_rule, defScope s__law_rule, [], []⟩
def d__law_net : He.DefD := ⟨("_law_net", none), "_law_net", "_law_net", defArgs s__law_net, defBody s__law_net, defScope s__law_net, [], []⟩
def d__law_rule_row : He.DefD := ⟨("_law_rule_row", none), "_law_rule_row", "_law_rule_row", defArgs s__law_rule_row, defBody s__law_rule_row, defScope s__law_rule_row, [], []⟩
def d__law_spot : He.DefD := ⟨("_law_spot", none), "_law_spot", "_law_spot", defArgs s__law_spot, defBody s__law_spot, defScope s__law_spot, [], []⟩
def d__law_written : He.DefD := ⟨("_law_written", none), "_law_written", "_law_written", defArgs s__law_written, defBody s__law_written, defScope s__law_written, [], []⟩
def d_Reading___init__ : He.DefD := ⟨("Reading", some "__init__"), "__init__", "Reading.__init__", defArgs s_Reading___init__, defBody s_Reading___init__, defScope s_Reading___init__, [], []⟩
def d_Reading_netM : He.DefD := ⟨("Reading", some "net"), "net", "Reading.net", defArgs s_Reading_netM, defBody s_Reading_netM, defScope s_Reading_netM, [], []⟩
def d_number_of : He.DefD := ⟨("number_of", none), "number_of", "number_of", defArgs s_number_of, defBody s_number_of, defScope s_number_of, [], []⟩
def d_Reading_take_width : He.DefD := ⟨("Reading", some "take_width"), "take_width", "Reading.take_width", defArgs s_Reading_take_width, defBody s_Reading_take_width, defScope s_Reading_take_width, [], []⟩
def d_Reading_take_switch : He.DefD := ⟨("Reading", some "take_switch"), "take_switch", "Reading.take_switch", defArgs s_Reading_take_switch, defBody s_Reading_take_switch, defScope s_Reading_take_switch, [], []⟩
def d_place_of : He.DefD := ⟨("place_of", none), "place_of", "place_of", defArgs s_place_of, defBody s_place_of, defScope s_place_of, [], []⟩
def d_Reading_take_link : He.DefD := ⟨("Reading", some "take_link"), "take_link", "Reading.take_link", defArgs s_Reading_take_link, defBody s_Reading_take_link, defScope s_Reading_take_link, [], []⟩
def d_is_signs : He.DefD := ⟨("is_signs", none), "is_signs", "is_signs", defArgs s_is_signs, defBody s_is_signs, defScope s_is_signs, [], []⟩
def d_out_of : He.DefD := ⟨("out_of", none), "out_of", "out_of", defArgs s_out_of, defBody s_out_of, defScope s_out_of, [], []⟩
def d_rule_of : He.DefD := ⟨("rule_of", none), "rule_of", "rule_of", defArgs s_rule_of, defBody s_rule_of, defScope s_rule_of, [], []⟩
def d_Reading_take_rule : He.DefD := ⟨("Reading", some "take_rule"), "take_rule", "Reading.take_rule", defArgs s_Reading_take_rule, defBody s_Reading_take_rule, defScope s_Reading_take_rule, [], []⟩
def d_Reading_take : He.DefD := ⟨("Reading", some "take"), "take", "Reading.take", defArgs s_Reading_take, defBody s_Reading_take, defScope s_Reading_take, [], []⟩
def d_is_whole : He.DefD := ⟨("is_whole", none), "is_whole", "is_whole", defArgs s_is_whole, defBody s_is_whole, defScope s_is_whole, [], []⟩
def d_is_below : He.DefD := ⟨("is_below", none), "is_below", "is_below", defArgs s_is_below, defBody s_is_below, defScope s_is_below, [], []⟩
def d_is_place : He.DefD := ⟨("is_place", none), "is_place", "is_place", defArgs s_is_place, defBody s_is_place, defScope s_is_place, [], []⟩
def d_look_at_links : He.DefD := ⟨("look_at_links", none), "look_at_links", "look_at_links", defArgs s_look_at_links, defBody s_look_at_links, defScope s_look_at_links, [], []⟩
def d_is_width : He.DefD := ⟨("is_width", none), "is_width", "is_width", defArgs s_is_width, defBody s_is_width, defScope s_is_width, [], []⟩
def d_is_of : He.DefD := ⟨("is_of", none), "is_of", "is_of", defArgs s_is_of, defBody s_is_of, defScope s_is_of, [], []⟩
def d_is_pattern : He.DefD := ⟨("is_pattern", none), "is_pattern", "is_pattern", defArgs s_is_pattern, defBody s_is_pattern, defScope s_is_pattern, [], []⟩
def d_is_out : He.DefD := ⟨("is_out", none), "is_out", "is_out", defArgs s_is_out, defBody s_is_out, defScope s_is_out, [], []⟩
def d_is_rule : He.DefD := ⟨("is_rule", none), "is_rule", "is_rule", defArgs s_is_rule, defBody s_is_rule, defScope s_is_rule, [], []⟩
def d_look_at_switch : He.DefD := ⟨("look_at_switch", none), "look_at_switch", "look_at_switch", defArgs s_look_at_switch, defBody s_look_at_switch, defScope s_look_at_switch, [], []⟩
def d_look_at_net : He.DefD := ⟨("look_at_net", none), "look_at_net", "look_at_net", defArgs s_look_at_net, defBody s_look_at_net, defScope s_look_at_net, [], []⟩
def d_Reading_net : He.DefD := ⟨("Reading", some "net"), "net", "Reading.net", defArgs s_Reading_net, defBody s_Reading_net, defScope s_Reading_net, [], []⟩
def d_read : He.DefD := ⟨("read", none), "read", "read", defArgs s_read, defBody s_read, defScope s_read, [], []⟩
def d_shown_outs : He.DefD := ⟨("shown_outs", none), "shown_outs", "shown_outs", defArgs s_shown_outs, defBody s_shown_outs, defScope s_shown_outs, [], []⟩
def d_shown_rule : He.DefD := ⟨("shown_rule", none), "shown_rule", "shown_rule", defArgs s_shown_rule, defBody s_shown_rule, defScope s_shown_rule, [], []⟩
def d_shown_place : He.DefD := ⟨("shown_place", none), "shown_place", "shown_place", defArgs s_shown_place, defBody s_shown_place, defScope s_shown_place, [], []⟩
def d_shown : He.DefD := ⟨("shown", none), "shown", "shown", defArgs s_shown, defBody s_shown, defScope s_shown, [], []⟩
def d_law : He.DefD := ⟨("law", none), "law", "law", defArgs s_law, defBody s_law, defScope s_law, [], []⟩
def fn0 : List He.DefD := [d__law_cell_at, d__law_pool, d__law_take, d__law_text, d__law_pattern, d__law_rule, d__law_net, d__law_rule_row, d__law_spot, d__law_written, d_Reading___init__, d_Reading_netM, d_number_of, d_Reading_take_width, d_Reading_take_switch, d_place_of, d_Reading_take_link, d_is_signs, d_out_of, d_rule_of, d_Reading_take_rule, d_Reading_take, d_is_whole, d_is_below, d_is_place, d_look_at_links, d_is_width, d_is_of, d_is_pattern, d_is_out]
def fn1 : List He.DefD := [d_is_rule, d_look_at_switch, d_look_at_net, d_Reading_net, d_read, d_shown_outs, d_shown_rule, d_shown_place, d_shown, d_law]
def fn : List He.DefD := fn0 ++ fn1
def ts : List He.Tab := []
def ex0 (K : PySem.W.Frag) : List Bool := [(decide (PySem.W.nsIn K mainGlobals "Reading" = some (some (.ref (He.ga K "Reading"))))),
  (PySem.W.plainGet K (He.ga K "Reading") Str.empty),
  (PySem.W.hasDictIn K (He.ga K "Reading")),
  (PySem.W.plainOver K (He.ga K "Reading")),
  (decide (PySem.W.findIn K (.ref (He.ga K "Reading")) "__setattr__" = some (some (.builtin "object.__setattr__")))),
  (decide (PySem.W.findIn K (.ref (He.ga K "Reading")) "__class__" = some (some (.builtin "object.__class__")))),
  (decide (PySem.W.specialIn K (.builtin "object.__class__") "__get__" = some (some (.builtin "getset_descriptor.__get__")))),
  (decide (PySem.W.takesIn K (.builtin "object.__class__") = some true)),
  (decide (PySem.W.mroIn K (He.ga K "Reading") (.type "object") = some true)),
  (decide (PySem.W.kitOne K (.ref (He.ga K "Reading")) (.type "int") = some false)),
  (decide (PySem.W.kitOne K (.ref (He.ga K "Reading")) (.type "bool") = some false)),
  (decide (PySem.W.kitOne K (.ref (He.ga K "Reading")) (.type "str") = some false)),
  (decide (PySem.W.kitOne K (.ref (He.ga K "Reading")) (.type "list") = some false)),
  (decide (PySem.W.kitOne K (.ref (He.ga K "Reading")) (.type "tuple") = some false)),
  (decide (PySem.W.kitOne K (.ref (He.ga K "Reading")) (.type "dict") = some false)),
  (PySem.W.makesIn K (He.ga K "Reading")),
  (PySem.W.keepIn K (.ref (He.ga K "Reading"))),
  (decide (PySem.W.nsIn K mainGlobals "_law_cell_at" = some (some (.ref (He.fAd K ("_law_cell_at", none)))))),
  (decide (PySem.W.nsIn K mainGlobals "_law_pool" = some (some (.ref (He.fAd K ("_law_pool", none)))))),
  (decide (PySem.W.nsIn K mainGlobals "_law_take" = some (some (.ref (He.fAd K ("_law_take", none)))))),
  (decide (PySem.W.nsIn K mainGlobals "_law_text" = some (some (.ref (He.fAd K ("_law_text", none)))))),
  (decide (PySem.W.nsIn K mainGlobals "_law_pattern" = some (some (.ref (He.fAd K ("_law_pattern", none)))))),
  (decide (PySem.W.nsIn K mainGlobals "_law_rule" = some (some (.ref (He.fAd K ("_law_rule", none)))))),
  (decide (PySem.W.nsIn K mainGlobals "_law_net" = some (some (.ref (He.fAd K ("_law_net", none)))))),
  (decide (PySem.W.nsIn K mainGlobals "_law_rule_row" = some (some (.ref (He.fAd K ("_law_rule_row", none)))))),
  (decide (PySem.W.nsIn K mainGlobals "_law_spot" = some (some (.ref (He.fAd K ("_law_spot", none)))))),
  (decide (PySem.W.nsIn K mainGlobals "_law_written" = some (some (.ref (He.fAd K ("_law_written", none)))))),
  (decide (PySem.W.findIn K (.ref (He.ga K "Reading")) "__init__" = some (some (.ref (He.fAd K ("Reading", some "__init__")))))),
  (PySem.W.isFn K (.ref (He.fAd K ("Reading", some "__init__")))),
  (decide (PySem.W.findIn K (.ref (He.ga K "Reading")) "net" = some (some (.ref (He.fAd K ("Reading", some "net")))))),
  (PySem.W.isFn K (.ref (He.fAd K ("Reading", some "net")))),
  (decide (PySem.W.nsIn K mainGlobals "number_of" = some (some (.ref (He.fAd K ("number_of", none)))))),
  (decide (PySem.W.findIn K (.ref (He.ga K "Reading")) "take_width" = some (some (.ref (He.fAd K ("Reading", some "take_width")))))),
  (PySem.W.isFn K (.ref (He.fAd K ("Reading", some "take_width")))),
  (decide (PySem.W.findIn K (.ref (He.ga K "Reading")) "take_switch" = some (some (.ref (He.fAd K ("Reading", some "take_switch")))))),
  (PySem.W.isFn K (.ref (He.fAd K ("Reading", some "take_switch")))),
  (decide (PySem.W.nsIn K mainGlobals "place_of" = some (some (.ref (He.fAd K ("place_of", none)))))),
  (decide (PySem.W.findIn K (.ref (He.ga K "Reading")) "take_link" = some (some (.ref (He.fAd K ("Reading", some "take_link")))))),
  (PySem.W.isFn K (.ref (He.fAd K ("Reading", some "take_link")))),
  (decide (PySem.W.nsIn K mainGlobals "is_signs" = some (some (.ref (He.fAd K ("is_signs", none))))))]
def ex1 (K : PySem.W.Frag) : List Bool := [(decide (PySem.W.nsIn K mainGlobals "out_of" = some (some (.ref (He.fAd K ("out_of", none)))))),
  (decide (PySem.W.nsIn K mainGlobals "rule_of" = some (some (.ref (He.fAd K ("rule_of", none)))))),
  (decide (PySem.W.findIn K (.ref (He.ga K "Reading")) "take_rule" = some (some (.ref (He.fAd K ("Reading", some "take_rule")))))),
  (PySem.W.isFn K (.ref (He.fAd K ("Reading", some "take_rule")))),
  (decide (PySem.W.findIn K (.ref (He.ga K "Reading")) "take" = some (some (.ref (He.fAd K ("Reading", some "take")))))),
  (PySem.W.isFn K (.ref (He.fAd K ("Reading", some "take")))),
  (decide (PySem.W.nsIn K mainGlobals "is_whole" = some (some (.ref (He.fAd K ("is_whole", none)))))),
  (decide (PySem.W.nsIn K mainGlobals "is_below" = some (some (.ref (He.fAd K ("is_below", none)))))),
  (decide (PySem.W.nsIn K mainGlobals "is_place" = some (some (.ref (He.fAd K ("is_place", none)))))),
  (decide (PySem.W.nsIn K mainGlobals "look_at_links" = some (some (.ref (He.fAd K ("look_at_links", none)))))),
  (decide (PySem.W.nsIn K mainGlobals "is_width" = some (some (.ref (He.fAd K ("is_width", none)))))),
  (decide (PySem.W.nsIn K mainGlobals "is_of" = some (some (.ref (He.fAd K ("is_of", none)))))),
  (decide (PySem.W.nsIn K mainGlobals "is_pattern" = some (some (.ref (He.fAd K ("is_pattern", none)))))),
  (decide (PySem.W.nsIn K mainGlobals "is_out" = some (some (.ref (He.fAd K ("is_out", none)))))),
  (decide (PySem.W.nsIn K mainGlobals "is_rule" = some (some (.ref (He.fAd K ("is_rule", none)))))),
  (decide (PySem.W.nsIn K mainGlobals "look_at_switch" = some (some (.ref (He.fAd K ("look_at_switch", none)))))),
  (decide (PySem.W.nsIn K mainGlobals "look_at_net" = some (some (.ref (He.fAd K ("look_at_net", none)))))),
  (decide (PySem.W.findIn K (.ref (He.ga K "Reading")) "net" = some (some (.ref (He.fAd K ("Reading", some "net")))))),
  (PySem.W.isFn K (.ref (He.fAd K ("Reading", some "net")))),
  (decide (PySem.W.nsIn K mainGlobals "read" = some (some (.ref (He.fAd K ("read", none)))))),
  (decide (PySem.W.nsIn K mainGlobals "shown_outs" = some (some (.ref (He.fAd K ("shown_outs", none)))))),
  (decide (PySem.W.nsIn K mainGlobals "shown_rule" = some (some (.ref (He.fAd K ("shown_rule", none)))))),
  (decide (PySem.W.nsIn K mainGlobals "shown_place" = some (some (.ref (He.fAd K ("shown_place", none)))))),
  (decide (PySem.W.nsIn K mainGlobals "shown" = some (some (.ref (He.fAd K ("shown", none)))))),
  (decide (PySem.W.nsIn K mainGlobals "law" = some (some (.ref (He.fAd K ("law", none)))))),
  (decide (PySem.W.nsIn K mainGlobals "len" = some none)),
  (decide (PySem.W.nsIn K mainGlobals "range" = some none)),
  (decide (PySem.W.nsIn K mainGlobals "enumerate" = some none)),
  (decide (PySem.W.nsIn K mainGlobals "min" = some none)),
  (decide (PySem.W.nsIn K mainGlobals "max" = some none)),
  (decide (PySem.W.nsIn K mainGlobals "int" = some none)),
  (decide (PySem.W.nsIn K mainGlobals "str" = some none)),
  (decide (PySem.W.nsIn K mainGlobals "all" = some none)),
  (decide (PySem.W.nsIn K mainGlobals "tuple" = some none)),
  (decide (PySem.W.nsIn K mainGlobals "isinstance" = some none)),
  (decide (PySem.W.nsIn K mainGlobals "bool" = some none)),
  (decide (PySem.W.nsIn K mainGlobals "list" = some none)),
  (decide (PySem.W.nsIn K mainGlobals "repr" = some none)),
  (decide (PySem.W.findIn K (.ref (He.ga K "Reading")) "own_links" = some none)),
  (decide (PySem.W.findIn K (.ref (He.ga K "Reading")) "own_switches" = some none))]
def ex2 (K : PySem.W.Frag) : List Bool := [(decide (PySem.W.findIn K (.ref (He.ga K "Reading")) "own_width" = some none)),
  (intAt K mainGlobals "MOST_WIDTH" 16),
  (intAt K mainGlobals "MOST_SWITCHES" 8),
  (intAt K mainGlobals "MOST_DOORS" 6),
  (intAt K mainGlobals "MOST_RULES" 20),
  (intAt K mainGlobals "MOST_OUTS" 3),
  (intAt K mainGlobals "MOST_LINKS" 24),
  (strAt K mainGlobals "FIGURES" ⟨[48, 49, 50, 51, 52, 53, 54, 55, 56, 57].toArray⟩),
  (strAt K mainGlobals "SIGNS" ⟨[48, 49, 42].toArray⟩),
  (intAt K mainGlobals "MOST_FIGURES" 9)]
def ex (K : PySem.W.Frag) : Bool := ((ex0 K).all (fun b => b) && ((ex1 K).all (fun b => b) && ((ex2 K).all (fun b => b) && true)))
abbrev hk : PySem.W.Hook := He.hookL 1500 fn ts ex
def ob (s : PySem.W.SharedT) : He.AlX := He.obsL 1500 fn ts ex (HandSHeadRun.getT s)
theorem ob_eq (s : PySem.W.SharedT) : ob s = hk.obs s.abs := He.obsL_eq (HandSHeadRun.getT_eq s)
theorem look_false (w : World) : HandSHeadRun.LookEq R qv 20000 names (w.withFollow "special-get-raises" false) := by
  intro os
  kernel_rfl
theorem fns_false (w : World) : HandSHeadRun.FnEq R 20000 1500 fn ts (w.withFollow "special-get-raises" false) := by
  intro os
  kernel_rfl
theorem exs_false (w : World) : HandSHeadRun.ExEq R 20000 1500 ex (w.withFollow "special-get-raises" false) := by
  intro os
  kernel_rfl
theorem run_false (w : World) : HandSHeadRun.RunEq R qv hk ob 20000 names (w.withFollow "special-get-raises" false) := HandSHeadRun.run_three (look_false w) (fns_false w) (exs_false w)
theorem look_true (w : World) : HandSHeadRun.LookEq R qv 20000 names (w.withFollow "special-get-raises" true) := by
  intro os
  kernel_rfl
theorem fns_true (w : World) : HandSHeadRun.FnEq R 20000 1500 fn ts (w.withFollow "special-get-raises" true) := by
  intro os
  kernel_rfl
theorem exs_true (w : World) : HandSHeadRun.ExEq R 20000 1500 ex (w.withFollow "special-get-raises" true) := by
  intro os
  kernel_rfl
theorem run_true (w : World) : HandSHeadRun.RunEq R qv hk ob 20000 names (w.withFollow "special-get-raises" true) := HandSHeadRun.run_three (look_true w) (fns_true w) (exs_true w)
theorem run (w : World) : HandSHeadRun.RunEq R qv hk ob 20000 names w := PySem.W.byRow2 "special-get-raises" (P := fun w => HandSHeadRun.RunEq R qv hk ob 20000 names w) run_false run_true w
end MyH

namespace DL
open PySem L2

inductive D where
  | non | bl (b : Bool) | int (i : Int) | str (x : List Nat)
  | lst (o : Bool) (xs : List D)
  | tup (xs : List D)
  | dK (o : Bool) (ks : List Key) (xs : List D)
  | dT (o : Bool) (ks : List (List Key)) (xs : List D)
  | obj (o : Bool) (c : Str) (fs : List Str) (xs : List D)
  | scr (ns : List Int)
  | exc (c : Str) (fs : List Str) (xs : List D)
  /-- a dict by nested tuples -/
  | dN (o : Bool) (ks : List PySem.NestedKey) (xs : List D)
  /-- a thing of which nothing is known -/
  | any

mutual
def frz : D → D
  | .non => .non
  | .bl b => .bl b
  | .int i => .int i
  | .str x => .str x
  | .lst _ xs => .lst false (frzs xs)
  | .tup xs => .tup (frzs xs)
  | .dK _ ks xs => .dK false ks (frzs xs)
  | .dT _ ks xs => .dT false ks (frzs xs)
  | .obj _ c fs xs => .obj false c fs (frzs xs)
  | .scr ns => .scr ns
  | .exc c fs xs => .exc c fs (frzs xs)
  | .dN _ ks xs => .dN false ks (frzs xs)
  | .any => .any
def frzs : List D → List D
  | [] => []
  | x :: xs => frz x :: frzs xs
end
mutual
/-- something within is shared, and can be changed -/
def shr : D → Bool
  | .non => false
  | .bl _ => false
  | .int _ => false
  | .str _ => false
  | .lst o xs => !o || shrs xs
  | .tup xs => shrs xs
  | .dK o _ xs => !o || shrs xs
  | .dT o _ xs => !o || shrs xs
  | .obj o _ _ xs => !o || shrs xs
  | .scr _ => false
  | .exc _ _ xs => shrs xs
  | .dN o _ xs => !o || shrs xs
  | .any => false
def shrs : List D → Bool
  | [] => false
  | x :: xs => shr x || shrs xs
end
theorem frzs_map : ∀ xs : List D, frzs xs = xs.map frz
  | [] => rfl
  | x :: xs => by rw [frzs, frzs_map xs]; rfl
theorem shrs_any : ∀ xs : List D, shrs xs = xs.any shr
  | [] => rfl
  | x :: xs => by rw [shrs, shrs_any xs]; rfl

abbrev Env := List (Option D)
structure Xc where
  cls : Str
  fs : List Str
  ds : List D
inductive Out (α : Type) where
  | ok (a : α) | exn (x : Xc) (r : Env) | bad
def Out.bind {α β : Type} (o : Out α) (f : α → Out β) : Out β := match o with
  | .ok a => f a
  | .exn x r => .exn x r
  | .bad => .bad
def Post {α : Type} (o : Out α) (q : α → Prop) (e : Xc → Env → Prop) : Prop := match o with
  | .ok a => q a
  | .exn x r => e x r
  | .bad => False
theorem Post.bind {α β : Type} {o : Out α} {f : α → Out β} {q : β → Prop} {e : Xc → Env → Prop} (h : Post (o.bind f) q e) : Post o (fun a => Post (f a) q e) e := by
  cases o <;> exact h
theorem Post.mono {α : Type} {o : Out α} {q q' : α → Prop} {e e' : Xc → Env → Prop} (h : Post o q e) (hq : ∀ a, q a → q' a) (he : ∀ x r, e x r → e' x r) : Post o q' e' := by
  cases o with
  | ok a => exact hq a h
  | exn x r => exact he x r h
  | bad => exact h

def isTb : HO → Bool
  | .tbl _ => true
  | _ => false
class Tbs where
  T : List (Addr × Str)
  /-- how the world hashes nested keys -/
  hN : PySem.NestedKey → Int := fun _ => 0
instance (priority := low) ttNil : Tbs := { T := [] }
variable [Tbs]
structure Ex (H H' : Hp) : Prop where
  get : ∀ a o, H a = some o → (h : isTb o = false := by rfl) → H' a = some o
  bk : ∀ a, H' a = none → H a = none
  tb : LamX.Tabs Tbs.T H → LamX.Tabs Tbs.T H'
instance {H H' : Hp} : CoeFun (Ex H H') (fun _ => ∀ a o, H a = some o → (h : isTb o = false := by rfl) → H' a = some o) := ⟨fun e => @Ex.get _ _ _ e⟩
theorem Ex.refl (H : Hp) : Ex H H := ⟨fun _ _ h _ => h, fun _ h => h, fun h => h⟩
theorem Ex.trans {H H1 H2 : Hp} (a : Ex H H1) (b : Ex H1 H2) : Ex H H2 := ⟨fun x o h n => b.get x o (a.get x o h n) n, fun x h => a.bk x (b.bk x h), fun h => b.tb (a.tb h)⟩
theorem Ex.all {H H' : Hp} (h : ∀ a o, H a = some o → H' a = some o) : Ex H H' := ⟨fun a o q _ => h a o q, fun a q => (by
  cases h1 : H a with
  | none => rfl
  | some o => rw [h a o h1] at q; cases q), fun t => LamX.Tabs.ext t h⟩
theorem Ex.new {H : Hp} {p : Addr} {o : HO} (h : H p = none) : Ex H (upd H p o) := Ex.all fun a u e => by
  rw [upd_ne (ne_of_none e h)]
  exact e
theorem Ex.back {H H' : Hp} {p : Addr} (e : Ex H H') (h : H' p = none) : H p = none := e.bk p h

structure Cm where
  K : PySem.W.Frag
  cl : Str → Addr
  ok : Str → Prop

def ExK (cls : Value) (dx : Option Addr) (p : Addr) : HO := .ext fun h => ∃ oe vs, h.get? p = some oe ∧ Zc cls dx oe ∧ oe.data = .fields vs
mutual
inductive NK (W : Addr → Prop) (H : Hp) : PySem.NestedKey → V → Prop
  | num (i : Int) : NK W H (.num i) (.int i)
  | text (x : Str) : NK W H (.text x) (.str x)
  | none : NK W H .none .non
  | tup {p : Addr} {vs : List V} {ks : List PySem.NestedKey} : H p = some (.tup vs) → ¬ W p → NKs W H ks vs → NK W H (.tup ks) (.ref p)
inductive NKs (W : Addr → Prop) (H : Hp) : List PySem.NestedKey → List V → Prop
  | nil : NKs W H [] []
  | cons {k : PySem.NestedKey} {v : V} {ks : List PySem.NestedKey} {vs : List V} : NK W H k v → NKs W H ks vs → NKs W H (k :: ks) (v :: vs)
end
abbrev NEnt := PySem.NestedKey × Addr × Value
def NdO (xs : List NEnt) (o : Obj) : Prop := (o.ExactDict ∧ ∀ x ∈ xs, x.1.depth ≤ 8) ∧ (xs.map (·.1)).Nodup ∧ ∃ es ep, o.data = .dict es ep ∧ es.toList = xs.map fun x => (⟨Tbs.hN x.1, .ref x.2.1, x.2.2⟩ : DictEntry)
def NdP (p : Addr) (o : Obj) : Heap → Prop := fun h => h.get? p = some o
abbrev ndH (p : Addr) (o : Obj) : HO := .ext (NdP p o)
def IsDc (o : Obj) : Prop := ∃ es ep, o.data = .dict es ep
theorem NdO.dc {xs : List NEnt} {o : Obj} (h : NdO xs o) : IsDc o := let ⟨_, _, es, ep, e, _⟩ := h; ⟨es, ep, e⟩
theorem flds_nd {φ : Heap → Prop} {p q : Addr} {o : Obj} (hf : ∀ h : Heap, φ h → ∃ oe vs, h.get? p = some oe ∧ oe.data = .fields vs) (hd : IsDc o) : φ ≠ NdP q o := fun e => by
  obtain ⟨es, ep, hd⟩ := hd
  let h : Heap := ⟨(List.replicate (Nat.succ (Nat.add p q)) o).toArray, {}⟩
  have g : ∀ a : Nat, a < Nat.succ (Nat.add p q) → h.get? a = some o := fun a ha => by
    unfold Heap.get?
    have e1 : h.objs[a]? = some o := by
      show (List.replicate (Nat.succ (Nat.add p q)) o).toArray[a]? = some o
      rw [List.getElem?_toArray, List.getElem?_replicate, if_pos ha]
    rw [e1]
    obtain ⟨c, d, dt, sl⟩ := o
    cases hd
    rfl
  have h1 : NdP q o h := g q (Nat.lt_succ_of_le (Nat.le_add_left q p))
  rw [← e] at h1
  obtain ⟨oe, vs, a1, a3⟩ := hf h h1
  rw [g p (Nat.lt_succ_of_le (Nat.le_add_right p q))] at a1
  cases a1
  rw [hd] at a3
  cases a3
mutual
inductive Rep (cm : Cm) (W : Addr → Prop) (H : Hp) : V → D → List Addr → Prop
  | non : Rep cm W H .non .non []
  | bl (b : Bool) : Rep cm W H (.bl b) (.bl b) []
  | int (i : Int) : Rep cm W H (.int i) (.int i) []
  | str (x : List Nat) : Rep cm W H (.str ⟨x.toArray⟩) (.str x) []
  | lstO {p : Addr} {vs : List V} {ds : List D} {fp : List Addr} : H p = some (.lst vs) → Reps cm W H vs ds fp → Rep cm W H (.ref p) (.lst true ds) (p :: fp)
  | lstF {p : Addr} {vs : List V} {ds : List D} : H p = some (.lst vs) → ¬ W p → Reps cm W H vs ds [] → Rep cm W H (.ref p) (.lst false ds) []
  | tup {p : Addr} {vs : List V} {ds : List D} {fp : List Addr} : H p = some (.tup vs) → ¬ W p → Reps cm W H vs ds fp → Rep cm W H (.ref p) (.tup ds) fp
  | dKO {p : Addr} {ks : List Key} {vs : List V} {ds : List D} {fp : List Addr} : H p = some (.dK (ks.zip vs)) → ks.length = vs.length → Reps cm W H vs ds fp → Rep cm W H (.ref p) (.dK true ks ds) (p :: fp)
  | dKF {p : Addr} {ks : List Key} {vs : List V} {ds : List D} : Rd H p (.dK (ks.zip vs)) → ks.length = vs.length → ¬ W p → Reps cm W H vs ds [] → Rep cm W H (.ref p) (.dK false ks ds) []
  | dTO {p : Addr} {ks : List (List Key)} {vs : List V} {ds : List D} {fp : List Addr} : H p = some (.dT (ks.zip vs)) → ks.length = vs.length → Reps cm W H vs ds fp → Rep cm W H (.ref p) (.dT true ks ds) (p :: fp)
  | dTF {p : Addr} {ks : List (List Key)} {vs : List V} {ds : List D} : Rd H p (.dT (ks.zip vs)) → ks.length = vs.length → ¬ W p → Reps cm W H vs ds [] → Rep cm W H (.ref p) (.dT false ks ds) []
  | objO {p dx : Addr} {c : Str} {fs : List Str} {vs : List V} {ds : List D} {fp : List Addr} : H p = some (.ins (cm.cl c) dx (fs.zip vs)) → (fs.length = vs.length ∧ cm.ok c) → Reps cm W H vs ds fp → Rep cm W H (.ref p) (.obj true c fs ds) (p :: fp)
  | objF {p dx : Addr} {c : Str} {fs : List Str} {vs : List V} {ds : List D} : H p = some (.ins (cm.cl c) dx (fs.zip vs)) → (fs.length = vs.length ∧ cm.ok c) → ¬ W p → Reps cm W H vs ds [] → Rep cm W H (.ref p) (.obj false c fs ds) []
  | scrF {p : Addr} {o : Obj} {ns : List Int} : H p = some (.frz o (.lst (ns.map V.int))) → ¬ W p → Rep cm W H (.ref p) (.scr ns) []
  | scrK {p : Addr} {ns : List Int} : (∀ H', SqL cm.K H' p (ns.map V.int)) → Rep cm W H (.ref p) (.scr ns) []
  | exc {p : Addr} {dx : Option Addr} {c : Str} {fs : List Str} {vs : List V} {ds : List D} : H p = some (ExK (.ref (cm.cl c)) dx p) → ¬ W p → ((fs = [] ∧ dx = none) ∨ ∃ a, dx = some a ∧ H a = some (.xd (fs.zip vs)) ∧ ¬ W a) → fs.length = vs.length → Reps cm W H vs ds [] → Rep cm W H (.ref p) (.exc c fs ds) []
  | dNO {p : Addr} {o : Obj} {xs : List NEnt} {ks : List PySem.NestedKey} {vs : List V} {ds : List D} {fp : List Addr} : H p = some (ndH p o) → (ks = xs.map (·.1) ∧ NdO xs o ∧ (p == sysModules) = false ∧ Vals vs (xs.map (·.2.2))) → (∀ x ∈ xs, NK W H x.1 (.ref x.2.1)) → Reps cm W H vs ds fp → Rep cm W H (.ref p) (.dN true ks ds) (p :: fp)
  | dNF {p : Addr} {o : Obj} {xs : List NEnt} {ks : List PySem.NestedKey} {vs : List V} {ds : List D} : H p = some (ndH p o) → (ks = xs.map (·.1) ∧ NdO xs o ∧ (p == sysModules) = false ∧ Vals vs (xs.map (·.2.2))) → ¬ W p → (∀ x ∈ xs, NK W H x.1 (.ref x.2.1)) → Reps cm W H vs ds [] → Rep cm W H (.ref p) (.dN false ks ds) []
  | any {v : V} : Rep cm W H v .any []
inductive Reps (cm : Cm) (W : Addr → Prop) (H : Hp) : List V → List D → List Addr → Prop
  | nil : Reps cm W H [] [] []
  | cons {v : V} {d : D} {fp : List Addr} {vs : List V} {ds : List D} {fps : List Addr} : Rep cm W H v d fp → Reps cm W H vs ds fps → Reps cm W H (v :: vs) (d :: ds) (fp ++ fps)
end

section
variable {cm : Cm} {W W' : Addr → Prop} {H H' : Hp}
theorem Rd.ex {a : Addr} {u : HO} (h : Rd H a u) (e : ∀ o, H a = some o → isTb o = false → H' a = some o) (hu : isTb u = false := by rfl) : Rd H' a u := by
  rcases h with h | ⟨o, h⟩
  · exact .inl (e _ h hu)
  · exact .inr ⟨o, e _ h rfl⟩
theorem Rd.there {a : Addr} {u : HO} (h : Rd H a u) : H a ≠ none := by
  rcases h with h | ⟨o, h⟩ <;> rw [h] <;> exact fun q => nomatch q
mutual
theorem NK.move (hW : ∀ a, W' a → W a ∨ H a = none) (e : ∀ a o, H a = some o → isTb o = false → ¬ W a → H' a = some o) : ∀ {k : PySem.NestedKey} {v : V}, NK W H k v → NK W' H' k v
  | _, _, .num i => .num i
  | _, _, .text x => .text x
  | _, _, .none => .none
  | _, _, .tup h n r => .tup (e _ _ h rfl n) (fun w => (hW _ w).elim n (fun q => by rw [h] at q; cases q)) (NKs.move hW e r)
theorem NKs.move (hW : ∀ a, W' a → W a ∨ H a = none) (e : ∀ a o, H a = some o → isTb o = false → ¬ W a → H' a = some o) : ∀ {ks : List PySem.NestedKey} {vs : List V}, NKs W H ks vs → NKs W' H' ks vs
  | _, _, .nil => .nil
  | _, _, .cons h r => .cons (NK.move hW e h) (NKs.move hW e r)
end
mutual
theorem NK.cg (e : ∀ a o, H a = some (.tup o) → H' a = some (.tup o)) : ∀ {k : PySem.NestedKey} {v : V}, NK W H k v → NK W H' k v
  | _, _, .num i => .num i
  | _, _, .text x => .text x
  | _, _, .none => .none
  | _, _, .tup h n r => .tup (e _ _ h) n (NKs.cg e r)
theorem NKs.cg (e : ∀ a o, H a = some (.tup o) → H' a = some (.tup o)) : ∀ {ks : List PySem.NestedKey} {vs : List V}, NKs W H ks vs → NKs W H' ks vs
  | _, _, .nil => .nil
  | _, _, .cons h r => .cons (NK.cg e h) (NKs.cg e r)
end
mutual
theorem NK.wk (hW : ∀ a o, H a = some (.tup o) → ¬ W a → ¬ W' a) : ∀ {k : PySem.NestedKey} {v : V}, NK W H k v → NK W' H k v
  | _, _, .num i => .num i
  | _, _, .text x => .text x
  | _, _, .none => .none
  | _, _, .tup h n r => .tup h (hW _ _ h n) (NKs.wk hW r)
theorem NKs.wk (hW : ∀ a o, H a = some (.tup o) → ¬ W a → ¬ W' a) : ∀ {ks : List PySem.NestedKey} {vs : List V}, NKs W H ks vs → NKs W' H ks vs
  | _, _, .nil => .nil
  | _, _, .cons h r => .cons (NK.wk hW h) (NKs.wk hW r)
end
mutual
theorem Rep.move (hW : ∀ a, W' a → W a ∨ H a = none) : ∀ {v : V} {d : D} {fp : List Addr}, Rep cm W H v d fp → (∀ a o, H a = some o → isTb o = false → (¬ W a ∨ a ∈ fp) → H' a = some o) → Rep cm W' H' v d fp
  | _, _, _, .non, _ => .non
  | _, _, _, .bl b, _ => .bl b
  | _, _, _, .int i, _ => .int i
  | _, _, _, .str x, _ => .str x
  | _, _, _, .lstO h r, e => .lstO (e _ _ h rfl (.inr (List.mem_cons_self ..))) (Reps.move hW r fun a o q t w => e a o q t (w.imp id (List.mem_cons_of_mem _)))
  | _, _, _, .lstF h n r, e => .lstF (e _ _ h rfl (.inl n)) (fun w => (hW _ w).elim n (fun q => by rw [h] at q; cases q)) (Reps.move hW r e)
  | _, _, _, .scrF h n, e => .scrF (e _ _ h rfl (.inl n)) (fun w => (hW _ w).elim n (fun q => by rw [h] at q; cases q))
  | _, _, _, .scrK h, e => .scrK h
  | _, _, _, .exc h n q l r, e => .exc (e _ _ h rfl (.inl n)) (fun w => (hW _ w).elim n (fun q => by rw [h] at q; cases q)) (q.imp id fun ⟨a, h1, h2, h3⟩ => ⟨a, h1, e _ _ h2 rfl (.inl h3), fun w => (hW _ w).elim h3 (fun q => by rw [h2] at q; cases q)⟩) l (Reps.move hW r e)
  | _, _, _, .tup h n r, e => .tup (e _ _ h rfl (.inl n)) (fun w => (hW _ w).elim n (fun q => by rw [h] at q; cases q)) (Reps.move hW r e)
  | _, _, _, .dKO h l r, e => .dKO (e _ _ h rfl (.inr (List.mem_cons_self ..))) l (Reps.move hW r fun a o q t w => e a o q t (w.imp id (List.mem_cons_of_mem _)))
  | _, _, _, .dKF h l n r, e => .dKF (Rd.ex h fun o q t => e _ o q t (.inl n)) l (fun w => (hW _ w).elim n (Rd.there h)) (Reps.move hW r e)
  | _, _, _, .dTO h l r, e => .dTO (e _ _ h rfl (.inr (List.mem_cons_self ..))) l (Reps.move hW r fun a o q t w => e a o q t (w.imp id (List.mem_cons_of_mem _)))
  | _, _, _, .dTF h l n r, e => .dTF (Rd.ex h fun o q t => e _ o q t (.inl n)) l (fun w => (hW _ w).elim n (Rd.there h)) (Reps.move hW r e)
  | _, _, _, .objO h l r, e => .objO (e _ _ h rfl (.inr (List.mem_cons_self ..))) l (Reps.move hW r fun a o q t w => e a o q t (w.imp id (List.mem_cons_of_mem _)))
  | _, _, _, .objF h l n r, e => .objF (e _ _ h rfl (.inl n)) l (fun w => (hW _ w).elim n (fun q => by rw [h] at q; cases q)) (Reps.move hW r e)
  | _, _, _, .dNO h l k r, e => .dNO (e _ _ h rfl (.inr (List.mem_cons_self ..))) l (fun x m => NK.move hW (fun a o q t n => e a o q t (.inl n)) (k x m)) (Reps.move hW r fun a o q t w => e a o q t (w.imp id (List.mem_cons_of_mem _)))
  | _, _, _, .dNF h l n k r, e => .dNF (e _ _ h rfl (.inl n)) l (fun w => (hW _ w).elim n (fun q => by rw [h] at q; cases q)) (fun x m => NK.move hW (fun a o q t n => e a o q t (.inl n)) (k x m)) (Reps.move hW r e)
  | _, _, _, .any, _ => .any
theorem Reps.move (hW : ∀ a, W' a → W a ∨ H a = none) : ∀ {vs : List V} {ds : List D} {fp : List Addr}, Reps cm W H vs ds fp → (∀ a o, H a = some o → isTb o = false → (¬ W a ∨ a ∈ fp) → H' a = some o) → Reps cm W' H' vs ds fp
  | _, _, _, .nil, _ => .nil
  | _, _, _, .cons h r, e => .cons (Rep.move hW h fun a o q t w => e a o q t (w.imp id (List.mem_append_left _))) (Reps.move hW r fun a o q t w => e a o q t (w.imp id (List.mem_append_right _)))
end
noncomputable def isM : HO → Bool
  | .lst _ => true
  | .dK _ => true
  | .dT _ => true
  | .ins _ _ _ => true
  | .ext φ => @decide (∃ p o, IsDc o ∧ φ = NdP p o) (Classical.propDecidable _)
  | _ => false
theorem isM_nd {p : Addr} {o : Obj} (h : IsDc o) : isM (ndH p o) = true := @decide_eq_true _ (Classical.propDecidable _) ⟨p, o, h, rfl⟩
theorem isM_flds {φ : Heap → Prop} {p : Addr} (hf : ∀ h : Heap, φ h → ∃ oe vs, h.get? p = some oe ∧ oe.data = .fields vs) : isM (.ext φ) = false := @decide_eq_false _ (Classical.propDecidable _) fun ⟨_, _, hd, e⟩ => flds_nd hf hd e
theorem isM_code {c : Addr} {q : Str} : isM (LamX.CodeO c q) = false := isM_flds (p := c) fun _ ⟨oc, vs, _, a, b, _⟩ => ⟨oc, vs, a, b⟩
theorem isM_exk {cls : Value} {dx : Option Addr} {p : Addr} : isM (ExK cls dx p) = false := isM_flds (p := p) fun _ ⟨oe, vs, a, _, b⟩ => ⟨oe, vs, a, b⟩
def MutAt (H : Hp) (a : Addr) : Prop := ∃ o, H a = some o ∧ isM o = true
theorem MutAt.there {H : Hp} {a : Addr} (h : MutAt H a) : H a ≠ none := by
  obtain ⟨o, h, _⟩ := h
  rw [h]; exact fun q => nomatch q
theorem MutAt.noTb {H : Hp} {a : Addr} (h : MutAt H a) {o : HO} (e : H a = some o) : isM o = true := by
  obtain ⟨u, q, m⟩ := h
  rw [e] at q
  cases q
  exact m
theorem isM_tb {o : HO} (h : isM o = true) : isTb o = false := by cases o <;> first | rfl | cases h
theorem Tabs.updM {T : List (Addr × Str)} {H : Hp} {p : Addr} {o : HO} (t : LamX.Tabs T H) (hm : MutAt H p) : LamX.Tabs T (upd H p o) := fun q hq => by
  obtain ⟨ps, h1, h2, h3⟩ := t q hq
  refine ⟨ps, ?_, h2, fun pos cv hc => ?_⟩
  · rw [upd_ne]
    · exact h1
    · rintro rfl
      cases hm.noTb h1
  · obtain ⟨c, e1, e2⟩ := h3 pos cv hc
    refine ⟨c, e1, ?_⟩
    rw [upd_ne]
    · exact e2
    · rintro rfl
      have z := hm.noTb e2
      rw [isM_code] at z
      cases z
theorem Ex.updM {H H1 : Hp} {p : Addr} {o : HO} (e : Ex H H1) (h : H p = none) (hm : MutAt H1 p) : Ex H (upd H1 p o) := ⟨fun a u z t => by
  rw [upd_ne (ne_of_none z h)]
  exact e.get a u z t, fun a z => by
  by_cases q : a = p
  · rw [q]; exact h
  · rw [upd_ne q] at z; exact e.bk a z, fun t => Tabs.updM (e.tb t) hm⟩
mutual
theorem Rep.own : ∀ {v : V} {d : D} {fp : List Addr}, Rep cm W H v d fp → ∀ a ∈ fp, MutAt H a
  | _, _, _, .non, _, h => nomatch h
  | _, _, _, .bl _, _, h => nomatch h
  | _, _, _, .int _, _, h => nomatch h
  | _, _, _, .str _, _, h => nomatch h
  | _, _, _, .lstO h r, a, m => by
    rcases List.mem_cons.mp m with rfl | m
    · exact ⟨_, h, rfl⟩
    · exact Reps.own r a m
  | _, _, _, .lstF _ _ _, _, h => nomatch h
  | _, _, _, .tup _ _ r, a, m => Reps.own r a m
  | _, _, _, .dKO h _ r, a, m => by
    rcases List.mem_cons.mp m with rfl | m
    · exact ⟨_, h, rfl⟩
    · exact Reps.own r a m
  | _, _, _, .dKF _ _ _ _, _, h => nomatch h
  | _, _, _, .dTO h _ r, a, m => by
    rcases List.mem_cons.mp m with rfl | m
    · exact ⟨_, h, rfl⟩
    · exact Reps.own r a m
  | _, _, _, .dTF _ _ _ _, _, h => nomatch h
  | _, _, _, .objO h _ r, a, m => by
    rcases List.mem_cons.mp m with rfl | m
    · exact ⟨_, h, rfl⟩
    · exact Reps.own r a m
  | _, _, _, .objF _ _ _ _, _, h => nomatch h
  | _, _, _, .scrF _ _, _, h => nomatch h
  | _, _, _, .scrK _, _, h => nomatch h
  | _, _, _, .exc _ _ _ _ _, _, h => nomatch h
  | _, _, _, .dNO h l _ r, a, m => by
    rcases List.mem_cons.mp m with rfl | m
    · exact ⟨_, h, isM_nd l.2.1.dc⟩
    · exact Reps.own r a m
  | _, _, _, .dNF _ _ _ _ _, _, h => nomatch h
  | _, _, _, .any, _, h => nomatch h
theorem Reps.own : ∀ {vs : List V} {ds : List D} {fp : List Addr}, Reps cm W H vs ds fp → ∀ a ∈ fp, MutAt H a
  | _, _, _, .nil, _, h => nomatch h
  | _, _, _, .cons h r, a, m => by
    rcases List.mem_append.mp m with m | m
    · exact Rep.own h a m
    · exact Reps.own r a m
end
mutual
theorem Rep.frz (hW : ∀ a, W' a → W a) : ∀ {v : V} {d : D} {fp : List Addr}, Rep cm W H v d fp → (∀ a ∈ fp, ¬ W' a) → Rep cm W' H v (frz d) []
  | _, _, _, .non, _ => .non
  | _, _, _, .bl b, _ => .bl b
  | _, _, _, .int i, _ => .int i
  | _, _, _, .str x, _ => .str x
  | _, _, _, .lstO h r, e => .lstF h (e _ (List.mem_cons_self ..)) (Reps.frz hW r fun a m => e a (List.mem_cons_of_mem _ m))
  | _, _, _, .lstF h n r, e => .lstF h (fun w => n (hW _ w)) (Reps.frz hW r e)
  | _, _, _, .tup h n r, e => .tup h (fun w => n (hW _ w)) (Reps.frz hW r e)
  | _, _, _, .dKO h l r, e => .dKF (.inl h) l (e _ (List.mem_cons_self ..)) (Reps.frz hW r fun a m => e a (List.mem_cons_of_mem _ m))
  | _, _, _, .dKF h l n r, e => .dKF h l (fun w => n (hW _ w)) (Reps.frz hW r e)
  | _, _, _, .dTO h l r, e => .dTF (.inl h) l (e _ (List.mem_cons_self ..)) (Reps.frz hW r fun a m => e a (List.mem_cons_of_mem _ m))
  | _, _, _, .dTF h l n r, e => .dTF h l (fun w => n (hW _ w)) (Reps.frz hW r e)
  | _, _, _, .objO h l r, e => .objF h l (e _ (List.mem_cons_self ..)) (Reps.frz hW r fun a m => e a (List.mem_cons_of_mem _ m))
  | _, _, _, .objF h l n r, e => .objF h l (fun w => n (hW _ w)) (Reps.frz hW r e)
  | _, _, _, .scrF h n, e => .scrF h (fun w => n (hW _ w))
  | _, _, _, .scrK h, e => .scrK h
  | _, _, _, .exc h n q l r, e => .exc h (fun w => n (hW _ w)) (q.imp id fun ⟨a, h1, h2, h3⟩ => ⟨a, h1, h2, fun w => h3 (hW _ w)⟩) l (Reps.frz hW r e)
  | _, _, _, .dNO h l k r, e => .dNF h l (e _ (List.mem_cons_self ..)) (fun x m => NK.wk (fun a o _ n w => n (hW _ w)) (k x m)) (Reps.frz hW r fun a m => e a (List.mem_cons_of_mem _ m))
  | _, _, _, .dNF h l n k r, e => .dNF h l (fun w => n (hW _ w)) (fun x m => NK.wk (fun a o _ n w => n (hW _ w)) (k x m)) (Reps.frz hW r e)
  | _, _, _, .any, _ => .any
theorem Reps.frz (hW : ∀ a, W' a → W a) : ∀ {vs : List V} {ds : List D} {fp : List Addr}, Reps cm W H vs ds fp → (∀ a ∈ fp, ¬ W' a) → Reps cm W' H vs (frzs ds) []
  | _, _, _, .nil, _ => .nil
  | _, _, _, .cons h r, e => .cons (fp := []) (Rep.frz hW h fun a m => e a (List.mem_append_left _ m)) (Reps.frz hW r fun a m => e a (List.mem_append_right _ m))
end
def NoW (H : Hp) (W : Addr → Prop) : Prop := ∀ a o, H a = some o → isM o = false → ¬ W a
mutual
theorem Rep.anyW (hW : NoW H W') : ∀ {v : V} {d : D} {fp : List Addr}, Rep cm W H v d fp → shr d = false → Rep cm W' H v d fp
  | _, _, _, .non, _ => .non
  | _, _, _, .bl b, _ => .bl b
  | _, _, _, .int i, _ => .int i
  | _, _, _, .str x, _ => .str x
  | _, _, _, .lstO h r, e => .lstO h (Reps.anyW hW r (by simpa [shr] using e))
  | _, _, _, .lstF h n r, e => by simp [shr] at e
  | _, _, _, .tup h n r, e => .tup h (hW _ _ h rfl) (Reps.anyW hW r (by simpa [shr] using e))
  | _, _, _, .dKO h l r, e => .dKO h l (Reps.anyW hW r (by simpa [shr] using e))
  | _, _, _, .dKF h l n r, e => by simp [shr] at e
  | _, _, _, .dTO h l r, e => .dTO h l (Reps.anyW hW r (by simpa [shr] using e))
  | _, _, _, .dTF h l n r, e => by simp [shr] at e
  | _, _, _, .objO h l r, e => .objO h l (Reps.anyW hW r (by simpa [shr] using e))
  | _, _, _, .objF h l n r, e => by simp [shr] at e
  | _, _, _, .scrF h n, e => .scrF h (hW _ _ h rfl)
  | _, _, _, .scrK h, e => .scrK h
  | _, _, _, .exc h n q l r, e => .exc h (hW _ _ h isM_exk) (q.imp id fun ⟨a, h1, h2, h3⟩ => ⟨a, h1, h2, hW _ _ h2 rfl⟩) l (Reps.anyW hW r (by simpa [shr] using e))
  | _, _, _, .dNO h l k r, e => .dNO h l (fun x m => NK.wk (fun a o q _ => hW _ _ q rfl) (k x m)) (Reps.anyW hW r (by simpa [shr] using e))
  | _, _, _, .dNF h l n k r, e => by simp [shr] at e
  | _, _, _, .any, _ => .any
theorem Reps.anyW (hW : NoW H W') : ∀ {vs : List V} {ds : List D} {fp : List Addr}, Reps cm W H vs ds fp → shrs ds = false → Reps cm W' H vs ds fp
  | _, _, _, .nil, _ => .nil
  | _, _, _, .cons h r, e => by
    simp only [shrs, Bool.or_eq_false_iff] at e
    exact .cons (Rep.anyW hW h e.1) (Reps.anyW hW r e.2)
end
end
end DL

namespace DL
variable [Tbs]
open PySem L2

def WOk (cm : Cm) (W : Addr → Prop) (H : Hp) : Prop := (∀ a, W a → MutAt H a) ∧ LamX.Tabs Tbs.T H
theorem MutAt.ex {H H' : Hp} {a : Addr} (h : MutAt H a) (e : Ex H H') : MutAt H' a := by
  obtain ⟨o, h, m⟩ := h
  exact ⟨o, e.get _ _ h (by cases o <;> first | rfl | cases m), m⟩
theorem WOk.ex {cm : Cm} {W : Addr → Prop} {H H' : Hp} (h : WOk cm W H) (e : Ex H H') : WOk cm W H' := ⟨fun a w => (h.1 a w).ex e, e.tb h.2⟩
theorem Rep.ex {cm : Cm} {W : Addr → Prop} {H H' : Hp} {v : V} {d : D} {fp : List Addr} (h : Rep cm W H v d fp) (e : Ex H H') : Rep cm W H' v d fp := h.move (fun _ w => .inl w) fun a o q t _ => e.get a o q t
theorem Reps.ex {cm : Cm} {W : Addr → Prop} {H H' : Hp} {v : List V} {d : List D} {fp : List Addr} (h : Reps cm W H v d fp) (e : Ex H H') : Reps cm W H' v d fp := h.move (fun _ w => .inl w) fun a o q t _ => e.get a o q t

def FRep (cm : Cm) (W : Addr → Prop) (H : Hp) (σ : St) (r : Env) : Prop := σ.length = r.length ∧ ∀ (i : Nat) d, r[i]? = some (some d) → ∃ v, σ[i]? = some (some v) ∧ Rep cm W H v d []
theorem FRep.ex {cm : Cm} {W : Addr → Prop} {H H' : Hp} {σ : St} {r : Env} (h : FRep cm W H σ r) (e : Ex H H') : FRep cm W H' σ r := ⟨h.1, fun i d q => by
  obtain ⟨v, h1, h2⟩ := h.2 i d q
  exact ⟨v, h1, h2.ex e⟩⟩
def XRep (cm : Cm) (W : Addr → Prop) (H : Hp) (x : Xc) (dx : Option Addr) : Prop :=
  (x.fs = [] ∧ dx = none) ∨ ∃ a vs, dx = some a ∧ H a = some (.xd (x.fs.zip vs)) ∧ x.fs.length = vs.length ∧ Reps cm W H vs x.ds []
theorem XRep.weak {cm : Cm} {W W' : Addr → Prop} {H : Hp} {x : Xc} {dx : Option Addr} (h : XRep cm W H x dx) (hW : ∀ a, W' a → W a) : XRep cm W' H x dx := by
  rcases h with h | ⟨a, vs, h1, h2, h3, h4⟩
  · exact .inl h
  · exact .inr ⟨a, vs, h1, h2, h3, h4.move (fun a z => .inl (hW a z)) fun _ _ q _ _ => q⟩
abbrev XS := St → XK
def XPost (cm : Cm) (E : XK) (W : Addr → Prop) (H : Hp) : Xc → Env → Prop := fun x _ => ∀ H' dx, Ex H H' → XRep cm W H' x dx → E (.ref (cm.cl x.cls)) dx H'
theorem XPost.ex {cm : Cm} {E : XK} {W : Addr → Prop} {H H' : Hp} (e : Ex H H') {x : Xc} {r : Env} (h : XPost cm E W H x r) : XPost cm E W H' x r := fun H2 dx e2 q => h H2 dx (e.trans e2) q
def FpN (b : Bool) (H : Hp) (fp : List Addr) : Prop := match b with
  | false => fp = []
  | true => fp.Nodup ∧ ∀ a ∈ fp, H a = none
theorem FpN.nil {b : Bool} {H : Hp} : FpN b H [] := by
  cases b
  · rfl
  · exact ⟨List.nodup_nil, fun _ h => nomatch h⟩
theorem FpN.ex {b : Bool} {H H' : Hp} {fp : List Addr} (h : FpN b H' fp) (e : Ex H H') : FpN b H fp := by
  cases b
  · exact h
  · exact ⟨h.1, fun a m => e.back (h.2 a m)⟩
theorem FpN.up {b : Bool} {H : Hp} {fp : List Addr} (h : FpN b H fp) : FpN true H fp := by
  cases b
  · cases (show fp = [] from h); exact FpN.nil
  · exact h

abbrev F := Env → Out D
abbrev Wp (W : Addr → Prop) (fp : List Addr) : Addr → Prop := fun a => W a ∨ a ∈ fp
theorem Rep.toP {cm : Cm} {W : Addr → Prop} {H : Hp} {v : V} {d : D} {fp : List Addr} (h : Rep cm W H v d fp) : Rep cm (Wp W []) H v d fp := h.move (fun a z => .inl (z.resolve_right (fun m => nomatch m))) fun _ _ q _ _ => q
theorem Rep.ofP {cm : Cm} {W : Addr → Prop} {H : Hp} {v : V} {d : D} {fp fq : List Addr} (h : Rep cm (Wp W fq) H v d fp) : Rep cm W H v d fp := h.move (fun a z => .inl (.inl z)) fun _ _ q _ _ => q
theorem Reps.toP {cm : Cm} {W : Addr → Prop} {H : Hp} {v : List V} {d : List D} {fp : List Addr} (h : Reps cm W H v d fp) : Reps cm (Wp W []) H v d fp := h.move (fun a z => .inl (z.resolve_right (fun m => nomatch m))) fun _ _ q _ _ => q
theorem Reps.ofP {cm : Cm} {W : Addr → Prop} {H : Hp} {v : List V} {d : List D} {fp fq : List Addr} (h : Reps cm (Wp W fq) H v d fp) : Reps cm W H v d fp := h.move (fun a z => .inl (.inl z)) fun _ _ q _ _ => q
theorem WOk.p {cm : Cm} {W : Addr → Prop} {H : Hp} {fp : List Addr} (w : WOk cm W H) (own : ∀ a ∈ fp, MutAt H a) : WOk cm (Wp W fp) H := ⟨fun a z => z.elim (w.1 a) (own a), w.2⟩
theorem FRep.p {cm : Cm} {W : Addr → Prop} {H H' : Hp} {σ : St} {r : Env} {fp : List Addr} (fr : FRep cm W H σ r) (e : Ex H H') (hf : ∀ a ∈ fp, H a = none) : FRep cm (Wp W fp) H' σ r := ⟨fr.1, fun i d h => by
  obtain ⟨v, h1, h2⟩ := fr.2 i d h
  exact ⟨v, h1, h2.move (fun a z => z.imp id (hf a)) fun a o q t _ => e.get a o q t⟩⟩
abbrev QP (cm : Cm) (W : Addr → Prop) (b : Bool) (H : Hp) (Q : VK) : D → Prop := fun d => ∀ v H' fp, Ex H H' → Rep cm (Wp W fp) H' v d fp → FpN b H fp → Q v H'
def ECon (cm : Cm) (E : XS) (b : Bool) (te : TE) (f : F) : Prop := ∀ W H σ r, WOk cm W H → FRep cm W H σ r → ∀ Q : VK, Post (f r) (QP cm W b H Q) (XPost cm (E σ) W H) → te σ H Q
structure DE (X : Cx) (cm : Cm) (E : XS) (b : Bool) (e : Expr) (f : F) : Prop where
  ex : ∃ te, PE X e te ∧ ECon cm E b te f
abbrev QT (H : Hp) (Q : Bool → Hp → Prop) : Bool → Prop := fun b => ∀ H', Ex H H' → Q b H'
def TCon (cm : Cm) (E : XS) (tt : TT) (f : Env → Out Bool) : Prop := ∀ W H σ r, WOk cm W H → FRep cm W H σ r → ∀ Q, Post (f r) (QT H Q) (XPost cm (E σ) W H) → tt σ H Q
structure DT (X : Cx) (cm : Cm) (E : XS) (e : Expr) (f : Env → Out Bool) : Prop where
  ex : ∃ te, PT X e te ∧ TCon cm E te f
structure DW (X : Cx) (cm : Cm) (E : XS) (e : Expr) (f : Env → Out Bool) : Prop where
  ex : ∃ te, PW X e te ∧ TCon cm E te f
theorem DW.dt {X : Cx} {cm : Cm} {E : XS} {e : Expr} {f : Env → Out Bool} (h : DW X cm E e f) : DT X cm E e f := by
  obtain ⟨te, h1, h2⟩ := h.ex
  exact ⟨te, h1.pt, h2⟩
abbrev QA (cm : Cm) (W : Addr → Prop) (b : Bool) (H : Hp) (Q : List V → Hp → Prop) : List D → Prop := fun ds => ∀ vs H' fp, Ex H H' → Reps cm (Wp W fp) H' vs ds fp → FpN b H fp → Q vs H'
def ACon (cm : Cm) (E : XS) (b : Bool) (ta : TA) (f : Env → Out (List D)) : Prop := ∀ W H σ r, WOk cm W H → FRep cm W H σ r → ∀ Q, Post (f r) (QA cm W b H Q) (XPost cm (E σ) W H) → ta σ H Q
structure DA (X : Cx) (cm : Cm) (E : XS) (b : Bool) (es : List Expr) (f : Env → Out (List D)) : Prop where
  ex : ∃ ta, PA X es ta ∧ ACon cm E b ta f

def cV (i : Nat) : F := fun r => match r[i]? with
  | some (some d) => .ok d
  | _ => .bad
def cK (d : D) : F := fun _ => .ok d
def c1 (g : D → Out D) (fa : F) : F := fun r => (fa r).bind g
def c2 (g : D → D → Out D) (fa fb : F) : F := fun r => (fa r).bind fun a => (fb r).bind fun b => g a b
def cFz (fa : F) : F := fun r => (fa r).bind fun a => .ok (frz a)
def aNil : Env → Out (List D) := fun _ => .ok []
def aCons (f : F) (g : Env → Out (List D)) : Env → Out (List D) := fun r => (f r).bind fun d => (g r).bind fun ds => .ok (d :: ds)
def cLst (g : Env → Out (List D)) : F := fun r => (g r).bind fun ds => if ds.length ≤ 1000 then .ok (.lst true ds) else .bad
def cTup (g : Env → Out (List D)) : F := fun r => (g r).bind fun ds => if ds.length ≤ 1000 then .ok (.tup ds) else .bad
def isB : D → Out Bool
  | .bl b => .ok b
  | _ => .bad
def tB (f : F) : Env → Out Bool := fun r => (f r).bind isB
def tAnd (f g : Env → Out Bool) : Env → Out Bool := fun r => (f r).bind fun b => if b = true then g r else .ok false
def tOr (f g : Env → Out Bool) : Env → Out Bool := fun r => (f r).bind fun b => if b = true then .ok true else g r
def tNot (f : Env → Out Bool) : Env → Out Bool := fun r => (f r).bind fun b => .ok (!b)
def cIf (t : Env → Out Bool) (f g : F) : F := fun r => (t r).bind fun b => if b = true then f r else g r
def cAnd (f g : F) : F := fun r => (f r).bind fun a => (isB a).bind fun b => if b = true then g r else .ok (.bl false)
def cOr (f g : F) : F := fun r => (f r).bind fun a => (isB a).bind fun b => if b = true then .ok (.bl true) else g r
def cNot (f : F) : F := fun r => (f r).bind fun a => (isB a).bind fun b => .ok (.bl (!b))

section
variable {X : Cx} {cm : Cm} {E : XS} {b : Bool} {pos : Pos}
theorem DE.up {e : Expr} {f : F} (h : DE X cm E b e f) : DE X cm E true e f := by
  obtain ⟨te, h1, h2⟩ := h.ex
  exact ⟨te, h1, fun W H σ r w fr Q hp => h2 W H σ r w fr Q (hp.mono (fun d q v H' fp ex rp fn => q v H' fp ex rp fn.up) fun _ _ z => z)⟩
theorem WOk.fresh {cm : Cm} {W : Addr → Prop} {H : Hp} (w : WOk cm W H) {a : Addr} (h : H a = none) : ¬ W a := fun q => (w.1 a q).there h
theorem de_fz {e : Expr} {f : F} (h : DE X cm E true e f) : DE X cm E b e (cFz f) := by
  obtain ⟨te, h1, h2⟩ := h.ex
  refine ⟨te, h1, fun W H σ r w fr Q hp => h2 W H σ r w fr Q (hp.bind.mono (fun d q v H' fp ex rp fn => ?_) fun _ _ z => z)⟩
  exact q v H' [] ex (rp.ofP.frz (fun _ z => z) fun a m => w.fresh (fn.2 a m)).toP FpN.nil
theorem de_var {i : Nat} {e : Expr} (h : PE X e (tVar i)) : DE X cm E b e (cV i) := by
  refine ⟨_, h, fun W H σ r w fr Q hp => ?_⟩
  unfold cV at hp
  split at hp
  · rename_i d hd
    obtain ⟨v, h1, h2⟩ := fr.2 i d hd
    exact ⟨v, h1, hp v H [] (Ex.refl H) h2.toP FpN.nil⟩
  · exact hp.elim
theorem de_con {v : V} {d : D} {e : Expr} (h : PE X e (tC v)) (hr : ∀ W H, Rep cm W H v d []) : DE X cm E b e (cK d) := ⟨_, h, fun W H σ r w fr Q hp => hp v H [] (Ex.refl H) (hr _ H) FpN.nil⟩
theorem de_int {i : Int} {j : Nat} : DE X cm E b (.Constant (.int i) j pos) (cK (.int i)) := de_con pe_int fun _ _ => .int i
theorem de_bl {i : Bool} {j : Nat} : DE X cm E b (.Constant (.bool i) j pos) (cK (.bl i)) := de_con pe_bl fun _ _ => .bl i
theorem de_non {j : Nat} : DE X cm E b (.Constant .none j pos) (cK .non) := de_con pe_non fun _ _ => .non
theorem de_str (cs : List Nat) {x : Str} {j : Nat} (h : x = ⟨cs.toArray⟩ := by decide +kernel) : DE X cm E b (.Constant (.str x) j pos) (cK (.str cs)) := by
  subst h
  exact de_con pe_str fun _ _ => .str cs

def noX : Xc → Env → Prop := fun _ _ => False
def Op2' (cm : Cm) (b : Bool) (r : R2) (g : D → D → Out D) : Prop := ∀ W H x y dx dy, WOk cm W H → Rep cm W H x dx [] → Rep cm W H y dy [] → ∀ Q : VK, Post (g dx dy) (QP cm W b H Q) noX → r x y H Q
def NoEx (g : D → D → Out D) : Prop := ∀ a b x r, g a b ≠ .exn x r
theorem Post.noX {α : Type} {o : Out α} {q : α → Prop} {e : Xc → Env → Prop} (h : Post o q e) (n : ∀ x r, o ≠ .exn x r) : Post o q noX := by
  cases o with
  | ok a => exact h
  | exn x r => exact absurd rfl (n x r)
  | bad => exact h
theorem con2 {r : R2} {g : D → D → Out D} {ta tb : TE} {fa fb : F} (ho : Op2' cm b r g) (hn : NoEx g) (ha : ECon cm E false ta fa) (hb : ECon cm E false tb fb) : ECon cm E b (tOp r ta tb) (c2 g fa fb) := fun W H σ env w fr Q hp =>
  ha W H σ env w fr _ (hp.bind.mono (fun a q v H1 fp e1 r1 f1 => hb W H1 σ env (w.ex e1) (fr.ex e1) _ (q.bind.mono (fun c q2 u H2 fp2 e2 r2 f2 => by
    cases (show fp = [] from f1)
    cases (show fp2 = [] from f2)
    exact ho W H2 v u a c ((w.ex e1).ex e2) (r1.ex e2).ofP r2.ofP Q (Post.noX (q2.mono (fun d q3 z H3 fp3 e3 r3 f3 => q3 z H3 fp3 ((e1.trans e2).trans e3) r3 (f3.ex (e1.trans e2))) fun _ _ z => z) (hn a c))) fun x rr z => XPost.ex e1 z)) fun _ _ z => z)
theorem con1 {r : V → Hp → VK → Prop} {g : D → Out D} {ta : TE} {fa : F} (ho : ∀ W H x dx, WOk cm W H → Rep cm W H x dx [] → ∀ Q : VK, Post (g dx) (QP cm W b H Q) noX → r x H Q) (hn : ∀ a x rr, g a ≠ .exn x rr) (ha : ECon cm E false ta fa) : ECon cm E b (tUn r ta) (c1 g fa) := fun W H σ env w fr Q hp =>
  ha W H σ env w fr _ (hp.bind.mono (fun a q v H1 fp e1 r1 f1 => by
    cases (show fp = [] from f1)
    exact ho W H1 v a (w.ex e1) r1.ofP Q (Post.noX (q.mono (fun d q3 z H3 fp3 e3 r3 f3 => q3 z H3 fp3 (e1.trans e3) r3 (f3.ex e1)) fun _ _ z => z) (hn a))) fun _ _ z => z)
theorem de_op {a c : Expr} {op : Operator} {r : R2} {g : D → D → Out D} {fa fb : F} (hr : OpR X (binaryOp op) r) (ho : Op2' cm b r g) (hn : NoEx g) (ha : DE X cm E false a fa) (hb : DE X cm E false c fb) : DE X cm E b (.BinOp a op c pos) (c2 g fa fb) := by
  obtain ⟨ta, h1, h2⟩ := ha.ex
  obtain ⟨tb, h3, h4⟩ := hb.ex
  exact ⟨_, pe_op hr h1 h3, con2 ho hn h2 h4⟩
theorem de_cmp {a c : Expr} {op : CmpOp} {r : R2} {g : D → D → Out D} {fa fb : F} (hr : OpR X (compareOp op) r) (ho : Op2' cm b r g) (hn : NoEx g) (hm : behindInMarks op c = false) (ha : DE X cm E false a fa) (hb : DE X cm E false c fb) : DE X cm E b (.Compare a [op] [c] pos) (c2 g fa fb) := by
  obtain ⟨ta, h1, h2⟩ := ha.ex
  obtain ⟨tb, h3, h4⟩ := hb.ex
  exact ⟨_, pe_cmpR hr h1 h3 hm, con2 ho hn h2 h4⟩
theorem de_ix {a c : Expr} {r : R2} {g : D → D → Out D} {fa fb : F} (hr : IxR X r) (ho : Op2' cm b r g) (hn : NoEx g) (hs : PlainIx c) (ha : DE X cm E false a fa) (hb : DE X cm E false c fb) : DE X cm E b (.Subscript a c pos) (c2 g fa fb) := by
  obtain ⟨ta, h1, h2⟩ := ha.ex
  obtain ⟨tb, h3, h4⟩ := hb.ex
  exact ⟨_, pe_ix hr h1 h3 hs, con2 ho hn h2 h4⟩

theorem dt_B {e : Expr} {f : F} (h : DE X cm E false e f) (he : ∀ whole, isTrue e X.env whole = (do let v ← whole; standAt e.pos; holding [v] (truthy v)) := by intro _; rfl) : DT X cm E e (tB f) := by
  obtain ⟨te, h1, h2⟩ := h.ex
  refine ⟨_, pt_val h1 he, fun W H σ r w fr Q hp => h2 W H σ r w fr _ (hp.bind.mono (fun d q v H1 fp e1 r1 f1 => ?_) fun _ _ z => z)⟩
  cases d <;> first | exact q.elim | skip
  cases r1
  exact ⟨_, rfl, q H1 e1⟩
theorem dt_cmp {a c : Expr} {op : CmpOp} {r : R2} {g : D → D → Out D} {fa fb : F} (hr : OpR X (compareOp op) r) (ho : Op2' cm false r g) (hn : NoEx g) (hm : behindInMarks op c = false) (ha : DE X cm E false a fa) (hb : DE X cm E false c fb) : DT X cm E (.Compare a [op] [c] pos) (tB (c2 g fa fb)) := by
  obtain ⟨ta, h1, h2⟩ := ha.ex
  obtain ⟨tb, h3, h4⟩ := hb.ex
  refine ⟨_, pt_cmpR hr h1 h3 hm, fun W H σ r w fr Q hp => con2 ho hn h2 h4 W H σ r w fr _ (hp.bind.mono (fun d q v H1 fp e1 r1 f1 => ?_) fun _ _ z => z)⟩
  cases d <;> first | exact q.elim | skip
  cases r1
  exact ⟨_, rfl, q H1 e1⟩
theorem dt_not {e : Expr} {f : Env → Out Bool} (h : DT X cm E e f) : DT X cm E (.UnaryOp .Not e pos) (tNot f) := by
  obtain ⟨te, h1, h2⟩ := h.ex
  exact ⟨_, pt_not h1, fun W H σ r w fr Q hp => h2 W H σ r w fr _ (hp.bind.mono (fun d q H1 e1 => q H1 e1) fun _ _ z => z)⟩
theorem dw_and1 {a : Expr} {f : Env → Out Bool} (h : DT X cm E a f) : DW X cm E (.BoolOp .And [a] pos) f := by
  obtain ⟨te, h1, h2⟩ := h.ex
  exact ⟨_, pw_and1 h1, h2⟩
theorem dw_or1 {a : Expr} {f : Env → Out Bool} (h : DT X cm E a f) : DW X cm E (.BoolOp .Or [a] pos) f := by
  obtain ⟨te, h1, h2⟩ := h.ex
  exact ⟨_, pw_or1 h1, h2⟩
theorem dw_and {a c : Expr} {rest : List Expr} {f g : Env → Out Bool} (h : DT X cm E a f) (k : DW X cm E (.BoolOp .And (c :: rest) pos) g) : DW X cm E (.BoolOp .And (a :: c :: rest) pos) (tAnd f g) := by
  obtain ⟨te, h1, h2⟩ := h.ex
  obtain ⟨tf, k1, k2⟩ := k.ex
  refine ⟨_, pw_and h1 k1, fun W H σ r w fr Q hp => h2 W H σ r w fr _ (hp.bind.mono (fun d q H1 e1 => ?_) fun _ _ z => z)⟩
  cases d with
  | true => exact k2 W H1 σ r (w.ex e1) (fr.ex e1) Q (q.mono (fun b q2 H2 e2 => q2 H2 (e1.trans e2)) fun x rr z => XPost.ex e1 z)
  | false => exact q H1 e1
theorem dw_or {a c : Expr} {rest : List Expr} {f g : Env → Out Bool} (h : DT X cm E a f) (k : DW X cm E (.BoolOp .Or (c :: rest) pos) g) : DW X cm E (.BoolOp .Or (a :: c :: rest) pos) (tOr f g) := by
  obtain ⟨te, h1, h2⟩ := h.ex
  obtain ⟨tf, k1, k2⟩ := k.ex
  refine ⟨_, pw_or h1 k1, fun W H σ r w fr Q hp => h2 W H σ r w fr _ (hp.bind.mono (fun d q H1 e1 => ?_) fun _ _ z => z)⟩
  cases d with
  | true => exact q H1 e1
  | false => exact k2 W H1 σ r (w.ex e1) (fr.ex e1) Q (q.mono (fun b q2 H2 e2 => q2 H2 (e1.trans e2)) fun x rr z => XPost.ex e1 z)
theorem de_one {op : BoolOp} {a : Expr} {f : F} (h : DE X cm E b a f) : DE X cm E b (.BoolOp op [a] pos) f := by
  obtain ⟨te, h1, h2⟩ := h.ex
  exact ⟨_, pe_one h1, h2⟩
theorem de_and {a c : Expr} {rest : List Expr} {f g : F} (h : DE X cm E false a f) (k : DE X cm E b (.BoolOp .And (c :: rest) pos) g) : DE X cm E b (.BoolOp .And (a :: c :: rest) pos) (cAnd f g) := by
  obtain ⟨te, h1, h2⟩ := h.ex
  obtain ⟨tf, k1, k2⟩ := k.ex
  refine ⟨_, pe_and h1 k1, fun W H σ r w fr Q hp => h2 W H σ r w fr _ (hp.bind.mono (fun d q v H1 fp e1 r1 f1 => ?_) fun _ _ z => z)⟩
  cases d <;> first | exact q.elim | skip
  cases r1
  rename_i t
  refine ⟨t, rfl, ?_⟩
  cases t with
  | true => exact k2 W H1 σ r (w.ex e1) (fr.ex e1) Q (Post.mono q (fun d q2 v H2 fp e2 r2 f2 => q2 v H2 fp (e1.trans e2) r2 (f2.ex e1)) fun x rr z => XPost.ex e1 z)
  | false => exact q (.bl false) H1 [] e1 (.bl false) FpN.nil
theorem de_not {a : Expr} {f : F} (h : DE X cm E false a f) : DE X cm E b (.UnaryOp .Not a pos) (cNot f) := by
  obtain ⟨te, h1, h2⟩ := h.ex
  refine ⟨_, pe_not h1, fun W H σ r w fr Q hp => h2 W H σ r w fr _ (hp.bind.mono (fun d q v H1 fp e1 r1 f1 => ?_) fun _ _ z => z)⟩
  cases d <;> first | exact q.elim | skip
  cases r1
  exact ⟨_, rfl, q _ H1 [] e1 (.bl _) FpN.nil⟩
theorem da_nil : DA X cm E b [] aNil := ⟨_, pa_nil, fun W H σ r w fr Q hp => hp [] H [] (Ex.refl H) .nil FpN.nil⟩
theorem fpN_app {b : Bool} {H H1 : Hp} {fp fps : List Addr} (h1 : FpN b H fp) (own : ∀ a ∈ fp, H1 a ≠ none) (e : Ex H H1) (h2 : FpN b H1 fps) : FpN b H (fp ++ fps) := by
  cases b with
  | false => cases (show fp = [] from h1); exact h2
  | true =>
    refine ⟨List.nodup_append.mpr ⟨h1.1, h2.1, fun a m c n z => ?_⟩, fun a m => ?_⟩
    · subst z
      exact own a m (h2.2 a n)
    · rcases List.mem_append.mp m with m | m
      · exact h1.2 a m
      · exact e.back (h2.2 a m)
theorem da_cons {e : Expr} {es : List Expr} {f : F} {g : Env → Out (List D)} (h : DE X cm E b e f) (k : DA X cm E b es g) (hs : starEach (e :: es) X.env = (false, eval e X.env) :: starEach es X.env := by rfl) : DA X cm E b (e :: es) (aCons f g) := by
  obtain ⟨te, h1, h2⟩ := h.ex
  obtain ⟨tf, k1, k2⟩ := k.ex
  refine ⟨_, pa_cons h1 k1 hs, fun W H σ r w fr Q hp => h2 W H σ r w fr _ (hp.bind.mono (fun d q v H1 fp e1 r1 f1 => ?_) fun _ _ z => z)⟩
  have own1 := fun a (m : a ∈ fp) => r1.own a m
  have hf : ∀ a ∈ fp, H a = none := f1.up.2
  refine k2 (Wp W fp) H1 σ r ((w.ex e1).p (cm := cm) own1) (fr.p e1 hf) _ (q.bind.mono (fun ds q2 vs H2 fps e2 r2 f2 => q2 (v :: vs) H2 (fp ++ fps) (e1.trans e2) (.cons (r1.move (fun a z => ?_) fun a o z t _ => e2.get a o z t) (r2.move (fun a z => .inl ?_) fun _ _ z _ _ => z)) (fpN_app f1 (fun a m => (own1 a m).there) e1 f2)) fun x rr z => ?_)
  · rcases z with z | z
    · exact .inl (.inl z)
    · rcases List.mem_append.mp z with z | z
      · exact .inl (.inr z)
      · exact .inr (f2.up.2 a z)
  · rcases z with z | z
    · exact .inl (.inl z)
    · rcases List.mem_append.mp z with z | z
      · exact .inl (.inr z)
      · exact .inr z
  · exact fun H2 dx e2 xr => z H2 dx (e1.trans e2) (xr.weak fun a z => .inl z)
theorem small1000' {n : Nat} (h : n ≤ 1000) : n ≤ sizeLine := Nat.le_trans h (by decide)
theorem Reps.len {cm : Cm} {W : Addr → Prop} {H : Hp} : ∀ {vs : List V} {ds : List D} {fp : List Addr}, Reps cm W H vs ds fp → vs.length = ds.length
  | _, _, _, .nil => rfl
  | _, _, _, .cons _ r => by rw [List.length_cons, List.length_cons, r.len]
theorem fpN_cons {H H' : Hp} {p : Addr} {fp : List Addr} (e : Ex H H') (hp : H' p = none) (own : ∀ a ∈ fp, H' a ≠ none) (h : FpN true H fp) : FpN true H (p :: fp) :=
  ⟨List.nodup_cons.mpr ⟨fun m => own p m hp, h.1⟩, fun a m => by
    rcases List.mem_cons.mp m with rfl | m
    · exact e.back hp
    · exact h.2 a m⟩
theorem wp_cons {W : Addr → Prop} {H : Hp} {p : Addr} {fp : List Addr} (hp : H p = none) {a : Addr} (z : Wp W (p :: fp) a) : Wp W fp a ∨ H a = none := by
  rcases z with z | z
  · exact .inl (.inl z)
  · rcases List.mem_cons.mp z with rfl | z
    · exact .inr hp
    · exact .inl (.inr z)
theorem de_lst {es : List Expr} {g : Env → Out (List D)} (h : DA X cm E true es g) : DE X cm E true (.List es pos) (cLst g) := by
  obtain ⟨te, h1, h2⟩ := h.ex
  refine ⟨_, pe_lst h1, fun W H σ r w fr Q hp => h2 W H σ r w fr _ (hp.bind.mono (fun ds q vs H1 fp e1 r1 f1 => ?_) fun _ _ z => z)⟩
  split at q
  · rename_i hl
    refine ⟨by rw [r1.len]; exact small1000' hl, fun p hp => q (.ref p) _ (p :: fp) (e1.trans (Ex.new hp)) (.lstO upd_same (r1.move (fun a z => wp_cons hp z) fun a o z t _ => (Ex.new hp).get a o z t)) (fpN_cons e1 hp (fun a m => (r1.own a m).there) f1)⟩
  · exact q.elim
theorem de_tup {es : List Expr} {g : Env → Out (List D)} {x1} (h : DA X cm E b es g) : DE X cm E b (.Tuple es x1 pos) (cTup g) := by
  obtain ⟨te, h1, h2⟩ := h.ex
  refine ⟨_, pe_tup h1, fun W H σ r w fr Q hp => h2 W H σ r w fr _ (hp.bind.mono (fun ds q vs H1 fp e1 r1 f1 => ?_) fun _ _ z => z)⟩
  split at q
  · rename_i hl
    refine ⟨by rw [r1.len]; exact small1000' hl, fun p hp => q (.ref p) _ fp (e1.trans (Ex.new hp)) (.tup upd_same (fun z => z.elim ((w.ex e1).fresh hp) fun m => (r1.own p m).there hp) (r1.ex (Ex.new hp))) f1⟩
  · exact q.elim
end
end DL

namespace DL
variable [Tbs]
open PySem L2

mutual
def plainD : D → Bool
  | .non => true
  | .bl _ => true
  | .int _ => true
  | .str _ => true
  | .lst _ xs => plainDs xs
  | .tup xs => plainDs xs
  | .dK _ _ _ => false
  | .dT _ _ _ => false
  | .dN _ _ _ => false
  | .obj _ _ _ _ => false
  | .scr _ => false
  | .exc _ _ _ => false
  | .any => false
def plainDs : List D → Bool
  | [] => true
  | x :: xs => plainD x && plainDs xs
end
mutual
def toPy : D → PyData
  | .non => .none
  | .bl b => .bool b
  | .int i => .int i
  | .str x => .str ⟨x.toArray⟩
  | .lst _ xs => .list (toPys xs)
  | .tup xs => .tuple (toPys xs)
  | .dK _ _ _ => .none
  | .dT _ _ _ => .none
  | .dN _ _ _ => .none
  | .obj _ _ _ _ => .none
  | .scr _ => .none
  | .exc _ _ _ => .none
  | .any => .none
def toPys : List D → List PyData
  | [] => []
  | x :: xs => toPy x :: toPys xs
end
mutual
/-- lists and tuples are at most n deep -/
def dle : Nat → D → Bool
  | _, .non => true
  | _, .bl _ => true
  | _, .int _ => true
  | _, .str _ => true
  | 0, .lst _ _ => false
  | n + 1, .lst _ xs => dles n xs
  | 0, .tup _ => false
  | n + 1, .tup xs => dles n xs
  | _, .dK _ _ _ => true
  | _, .dT _ _ _ => true
  | _, .dN _ _ _ => true
  | _, .obj _ _ _ _ => true
  | _, .scr _ => true
  | _, .exc _ _ _ => true
  | _, .any => true
def dles : Nat → List D → Bool
  | _, [] => true
  | n, x :: xs => dle n x && dles n xs
end
mutual
def eqD : D → D → Bool
  | .non, .non => true
  | .bl a, .bl b => a == b
  | .bl a, .int j => (if a then 1 else 0) == j
  | .int i, .bl b => i == (if b then 1 else 0)
  | .int i, .int j => i == j
  | .str x, .str y => x == y
  | .lst _ xs, .lst _ ys => eqDs xs ys
  | .tup xs, .tup ys => eqDs xs ys
  | _, _ => false
def eqDs : List D → List D → Bool
  | [], [] => true
  | x :: xs, y :: ys => eqD x y && eqDs xs ys
  | [], _ :: _ => false
  | _ :: _, [] => false
end
theorem strEq (x y : List Nat) : ((⟨x.toArray⟩ : Str) == ⟨y.toArray⟩) = (x == y) := by
  by_cases h : x = y
  · subst h; simp
  · have : (⟨x.toArray⟩ : Str) ≠ ⟨y.toArray⟩ := fun q => h (by simpa using q)
    rw [beq_eq_false_iff_ne.mpr this, beq_eq_false_iff_ne.mpr h]
mutual
theorem eqD_py : ∀ a b : D, plainD a = true → plainD b = true → PyData.eqv (toPy a) (toPy b) = eqD a b
  | .lst _ xs, b, ha, hb => by
    cases b <;> first | rfl | (exact eqDs_py xs _ ha hb) | (cases hb)
  | .tup xs, b, ha, hb => by
    cases b <;> first | rfl | (exact eqDs_py xs _ ha hb) | (cases hb)
  | .non, b, _, hb => by cases b <;> first | rfl | cases hb
  | .bl _, b, _, hb => by cases b <;> first | rfl | cases hb
  | .int _, b, _, hb => by cases b <;> first | rfl | cases hb
  | .str x, b, _, hb => by
    cases b <;> first | rfl | exact strEq _ _ | (cases hb; done)
  | .dK _ _ _, _, h, _ => nomatch h
  | .dT _ _ _, _, h, _ => nomatch h
  | .dN _ _ _, _, h, _ => nomatch h
  | .obj _ _ _ _, _, h, _ => nomatch h
  | .scr _, _, h, _ => nomatch h
theorem eqDs_py : ∀ a b : List D, plainDs a = true → plainDs b = true → PyData.eqvAll (toPys a) (toPys b) = eqDs a b
  | [], b, _, _ => by cases b <;> rfl
  | x :: xs, b, ha, hb => by
    cases b with
    | nil => rfl
    | cons y ys =>
      simp only [plainDs, Bool.and_eq_true] at ha hb
      show (PyData.eqv (toPy x) (toPy y) && PyData.eqvAll (toPys xs) (toPys ys)) = (eqD x y && eqDs xs ys)
      rw [eqD_py x y ha.1 hb.1, eqDs_py xs ys ha.2 hb.2]
end
mutual
theorem plain_py : ∀ a : D, plainD a = true → (toPy a).plain = true
  | .lst _ xs, h => by exact plains_py xs h
  | .tup xs, h => by exact plains_py xs h
  | .non, _ => rfl
  | .bl _, _ => rfl
  | .int _, _ => rfl
  | .str x, _ => rfl
  | .dK _ _ _, h => nomatch h
  | .dT _ _ _, h => nomatch h
  | .dN _ _ _, h => nomatch h
  | .obj _ _ _ _, h => nomatch h
  | .scr _, h => nomatch h
theorem plains_py : ∀ a : List D, plainDs a = true → PyData.plainAll (toPys a) = true
  | [], _ => rfl
  | x :: xs, h => by
    simp only [plainDs, Bool.and_eq_true] at h
    simp only [toPys, PyData.plainAll, plain_py x h.1, plains_py xs h.2, Bool.and_self]
end
mutual
theorem dle_py : ∀ (n : Nat) (a : D), plainD a = true → dle n a = true → (toPy a).depth ≤ n
  | n, .lst _ xs, hp, h => by
    cases n with
    | zero => cases h
    | succ n => have := dles_py n xs hp h; simp only [toPy, PyData.depth]; omega
  | n, .tup xs, hp, h => by
    cases n with
    | zero => cases h
    | succ n => have := dles_py n xs hp h; simp only [toPy, PyData.depth]; omega
  | n, .non, _, _ => by simp [toPy, PyData.depth]
  | n, .bl _, _, _ => by simp [toPy, PyData.depth]
  | n, .int _, _, _ => by simp [toPy, PyData.depth]
  | n, .str x, _, _ => by simp [toPy, PyData.depth]
  | _, .dK _ _ _, h, _ => nomatch h
  | _, .dT _ _ _, h, _ => nomatch h
  | _, .dN _ _ _, h, _ => nomatch h
  | _, .obj _ _ _ _, h, _ => nomatch h
  | _, .scr _, h, _ => nomatch h
theorem dles_py : ∀ (n : Nat) (a : List D), plainDs a = true → dles n a = true → PyData.depthAll (toPys a) ≤ n
  | n, [], _, _ => by simp [toPys, PyData.depthAll]
  | n, x :: xs, hp, h => by
    simp only [plainDs, dles, Bool.and_eq_true] at h hp
    have h1 := dle_py n x hp.1 h.1
    have h2 := dles_py n xs hp.2 h.2
    simp only [toPys, PyData.depthAll]
    omega
end
mutual
theorem Rep.dp {cm : Cm} {W : Addr → Prop} {H : Hp} {K : PySem.W.Frag} : ∀ {v : V} {d : D} {fp : List Addr}, Rep cm W H v d fp → plainD d = true → Dp K H v (toPy d)
  | _, _, _, .non, _ => .non
  | _, _, _, .bl b, _ => .bl b
  | _, _, _, .int i, _ => .int i
  | _, _, _, .str x, _ => .str _
  | _, _, _, .lstO h r, e => .lst (SqL.of h) (Reps.dp r e)
  | _, _, _, .lstF h n r, e => .lst (SqL.of h) (Reps.dp r e)
  | _, _, _, .tup h n r, e => .tup (SqT.of h) (Reps.dp r e)
  | _, _, _, .dKO h l r, e => nomatch e
  | _, _, _, .dKF h l n r, e => nomatch e
  | _, _, _, .dTO h l r, e => nomatch e
  | _, _, _, .dTF h l n r, e => nomatch e
  | _, _, _, .dNO _ _ _ _, e => nomatch e
  | _, _, _, .dNF _ _ _ _ _, e => nomatch e
  | _, _, _, .objO h l r, e => nomatch e
  | _, _, _, .objF h l n r, e => nomatch e
  | _, _, _, .scrF h n, e => nomatch e
  | _, _, _, .scrK h, e => nomatch e
theorem Reps.dp {cm : Cm} {W : Addr → Prop} {H : Hp} {K : PySem.W.Frag} : ∀ {v : List V} {d : List D} {fp : List Addr}, Reps cm W H v d fp → plainDs d = true → DpAll K H v (toPys d)
  | _, _, _, .nil, _ => .nil
  | _, _, _, .cons h r, e => by
    simp only [plainDs, Bool.and_eq_true] at e
    exact .cons (Rep.dp h e.1) (Reps.dp r e.2)
end

section
variable {X : Cx} {cm : Cm} {E : XS} {b : Bool} {pos : Pos}
def rEqP (K : PySem.W.Frag) (neg : Bool) : R2 := fun x y H Q => ∃ d e, Dp K H x d ∧ Dp K H y e ∧ d.plain = true ∧ e.plain = true ∧ d.depth ≤ 60 ∧ Q (.bl (PyData.eqv d e != neg)) H
theorem op_eqP (hu : X.A.units + 64 < cLine) : OpR X (compareOp .Eq) (rEqP X.K false) := by
  intro pins s σ H x y v u Q I rx ry h
  obtain ⟨d, e, hd, he, sd, se, hl, q⟩ := h
  obtain ⟨as, r1⟩ := Dp.reads I d x v hd rx
  obtain ⟨bs, r2⟩ := Dp.reads I e y u he ry
  have : min d.depth e.depth ≤ d.depth := Nat.min_le_left _ _
  exact SeqAt.eq_plain r1 r2 sd se (by omega) ⟨.bl _, H, I, rfl, by simpa using q⟩
theorem op_neP (hu : X.A.units + 64 < cLine) : OpR X (compareOp .NotEq) (rEqP X.K true) := by
  intro pins s σ H x y v u Q I rx ry h
  obtain ⟨d, e, hd, he, sd, se, hl, q⟩ := h
  obtain ⟨as, r1⟩ := Dp.reads I d x v hd rx
  obtain ⟨bs, r2⟩ := Dp.reads I e y u he ry
  have : min d.depth e.depth ≤ d.depth := Nat.min_le_left _ _
  exact SeqAt.ne_plain r1 r2 sd se (by omega) ⟨.bl _, H, I, rfl, by simpa using q⟩
def eqOk (x y : D) : Bool := plainD x && plainD y && dle 60 x
def gEq : D → D → Out D := fun x y => if eqOk x y = true then .ok (.bl (eqD x y)) else .bad
def gNe : D → D → Out D := fun x y => if eqOk x y = true then .ok (.bl (!eqD x y)) else .bad
theorem noEx_ite {c : D → D → Bool} {g : D → D → D} : NoEx (fun a b => if c a b = true then .ok (g a b) else .bad) := fun a b x r h => by
  dsimp only at h
  split at h <;> cases h
theorem o_eq : Op2' cm b (rEqP X.K false) gEq := fun W H x y dx dy w rx ry Q hp => by
  unfold gEq at hp
  split at hp
  · rename_i h
    simp only [eqOk, Bool.and_eq_true] at h
    refine ⟨toPy dx, toPy dy, rx.dp h.1.1, ry.dp h.1.2, plain_py _ h.1.1, plain_py _ h.1.2, dle_py _ _ h.1.1 h.2, ?_⟩
    rw [eqD_py _ _ h.1.1 h.1.2]
    simp only [Bool.bne_false]
    exact hp _ H [] (Ex.refl H) (.bl _) FpN.nil
  · exact hp.elim
theorem o_ne : Op2' cm b (rEqP X.K true) gNe := fun W H x y dx dy w rx ry Q hp => by
  unfold gNe at hp
  split at hp
  · rename_i h
    simp only [eqOk, Bool.and_eq_true] at h
    refine ⟨toPy dx, toPy dy, rx.dp h.1.1, ry.dp h.1.2, plain_py _ h.1.1, plain_py _ h.1.2, dle_py _ _ h.1.1 h.2, ?_⟩
    rw [eqD_py _ _ h.1.1 h.1.2]
    simp only [Bool.bne_true]
    exact hp _ H [] (Ex.refl H) (.bl _) FpN.nil
  · exact hp.elim
theorem de_eq {a c : Expr} {fa fb : F} (hu : X.A.units + 64 < cLine) (ha : DE X cm E false a fa) (hb : DE X cm E false c fb) : DE X cm E b (.Compare a [.Eq] [c] pos) (c2 gEq fa fb) := de_cmp (op_eqP hu) o_eq noEx_ite (nomark _) ha hb
theorem de_ne {a c : Expr} {fa fb : F} (hu : X.A.units + 64 < cLine) (ha : DE X cm E false a fa) (hb : DE X cm E false c fb) : DE X cm E b (.Compare a [.NotEq] [c] pos) (c2 gNe fa fb) := de_cmp (op_neP hu) o_ne noEx_ite (nomark _) ha hb
theorem dt_eq {a c : Expr} {fa fb : F} (hu : X.A.units + 64 < cLine) (ha : DE X cm E false a fa) (hb : DE X cm E false c fb) : DT X cm E (.Compare a [.Eq] [c] pos) (tB (c2 gEq fa fb)) := dt_cmp (op_eqP hu) o_eq noEx_ite (nomark _) ha hb
theorem dt_ne {a c : Expr} {fa fb : F} (hu : X.A.units + 64 < cLine) (ha : DE X cm E false a fa) (hb : DE X cm E false c fb) : DT X cm E (.Compare a [.NotEq] [c] pos) (tB (c2 gNe fa fb)) := dt_cmp (op_neP hu) o_ne noEx_ite (nomark _) ha hb

def inD (x : D) (xs : List D) : Bool := xs.any fun y => eqD y x
def rInP (K : PySem.W.Frag) (neg : Bool) : R2 := fun x y H Q =>
  (∃ d ds, Dp K H x d ∧ (Dp K H y (.list ds) ∨ Dp K H y (.tuple ds)) ∧ d.plain = true ∧ PyData.plainAll ds = true ∧ d.depth ≤ 60 ∧ Q (.bl ((ds.any fun z => PyData.eqv z d) != neg)) H)
theorem op_inP (hu : X.A.units + 64 < cLine) : OpR X (compareOp .In) (rInP X.K false) := by
  intro pins s σ H x y v u Q I rx ry h
  obtain ⟨d, ds, hd, he, sd, se, hl, q⟩ := h
  obtain ⟨as, r1⟩ := Dp.reads I d x v hd rx
  have : min (PyData.depthAll ds) d.depth ≤ d.depth := Nat.min_le_right _ _
  rcases he with he | he
  · obtain ⟨bs, r2⟩ := Dp.reads I _ y u he ry
    exact SeqAt.in_list_data r2 r1 se sd (by omega) ⟨.bl _, H, I, rfl, by simpa using q⟩
  · obtain ⟨bs, r2⟩ := Dp.reads I _ y u he ry
    exact SeqAt.in_tuple_data r2 r1 se sd (by omega) ⟨.bl _, H, I, rfl, by simpa using q⟩
theorem any_py (x : D) (hx : plainD x = true) : ∀ xs : List D, plainDs xs = true → ((toPys xs).any fun z => PyData.eqv z (toPy x)) = inD x xs
  | [], _ => rfl
  | y :: ys, h => by
    simp only [plainDs, Bool.and_eq_true] at h
    simp only [toPys, List.any_cons, inD, eqD_py y x h.1 hx]
    have := any_py x hx ys h.2
    simp only [inD] at this
    rw [this]
def gIn (neg : Bool) : D → D → Out D := fun x y => match y with
  | .lst _ xs => if (plainD x && plainDs xs && dle 60 x) = true then .ok (.bl (inD x xs != neg)) else .bad
  | .tup xs => if (plainD x && plainDs xs && dle 60 x) = true then .ok (.bl (inD x xs != neg)) else .bad
  | .str cs => match x with
    | .str [c] => .ok (.bl (cs.contains c != neg))
    | _ => .bad
  | _ => .bad
theorem noEx_in {neg : Bool} : NoEx (gIn neg) := fun a b x r h => by
  unfold gIn at h
  split at h
  · split at h <;> cases h
  · split at h <;> cases h
  · split at h <;> cases h
  · cases h
def rInS (K : PySem.W.Frag) (neg : Bool) : R2 := fun x y H Q => rInP K neg x y H Q ∨ ∃ (c : Nat) (z : Str), x = .str ⟨#[c]⟩ ∧ y = .str z ∧ Q (.bl (decide (c ∈ z.cps.toList) != neg)) H
theorem op_inS (hu : X.A.units + 64 < cLine) : OpR X (compareOp .In) (rInS X.K false) := (op_inP hu).or (by
  intro pins s σ H x y v u Q I rx ry h
  obtain ⟨c, z, e1, e2, q⟩ := h
  exact op_in_sign pins s σ H x y v u Q I rx ry ⟨c, z, e1, e2, by simpa using q⟩)
theorem o_in {neg : Bool} : Op2' cm b (rInS X.K neg) (gIn neg) := fun W H x y dx dy w rx ry Q hp => by
  unfold gIn at hp
  split at hp
  · split at hp
    · rename_i h
      simp only [Bool.and_eq_true] at h
      refine .inl ⟨toPy dx, toPys _, rx.dp h.1.1, .inl (ry.dp h.1.2), plain_py _ h.1.1, plains_py _ h.1.2, dle_py _ _ h.1.1 h.2, ?_⟩
      rw [any_py _ h.1.1 _ h.1.2]
      exact hp _ H [] (Ex.refl H) (.bl _) FpN.nil
    · exact hp.elim
  · split at hp
    · rename_i h
      simp only [Bool.and_eq_true] at h
      refine .inl ⟨toPy dx, toPys _, rx.dp h.1.1, .inr (ry.dp h.1.2), plain_py _ h.1.1, plains_py _ h.1.2, dle_py _ _ h.1.1 h.2, ?_⟩
      rw [any_py _ h.1.1 _ h.1.2]
      exact hp _ H [] (Ex.refl H) (.bl _) FpN.nil
    · exact hp.elim
  · split at hp
    · cases rx
      cases ry
      refine .inr ⟨_, _, rfl, rfl, ?_⟩
      rw [show ∀ (c : Nat) (cs : List Nat), decide (c ∈ cs.toArray.toList) = cs.contains c from fun c cs => by simp]
      exact hp _ H [] (Ex.refl H) (.bl _) FpN.nil
    · exact hp.elim
  · exact hp.elim
theorem de_in {a c : Expr} {fa fb : F} (hu : X.A.units + 64 < cLine) (ha : DE X cm E false a fa) (hb : DE X cm E false c fb) (hm : behindInMarks .In c = false := by rfl) : DE X cm E b (.Compare a [.In] [c] pos) (c2 (gIn false) fa fb) := de_cmp (op_inS hu) o_in noEx_in hm ha hb
theorem dt_in {a c : Expr} {fa fb : F} (hu : X.A.units + 64 < cLine) (ha : DE X cm E false a fa) (hb : DE X cm E false c fb) (hm : behindInMarks .In c = false := by rfl) : DT X cm E (.Compare a [.In] [c] pos) (tB (c2 (gIn false) fa fb)) := dt_cmp (op_inS hu) o_in noEx_in hm ha hb
end
end DL

namespace DL
variable [Tbs]
open PySem L2
section
variable {X : Cx} {cm : Cm} {E : XS} {b : Bool} {pos : Pos}

instance instCMul (i j : Int) : Decidable (CMul i j) := by unfold CMul; infer_instance
instance instCDiv (i j : Int) : Decidable (CDiv i j) := by unfold CDiv; infer_instance
instance instCPow (i j : Int) : Decidable (CPow i j) := by unfold CPow; infer_instance
def gI (C : Int → Int → Prop) [∀ i j, Decidable (C i j)] (g : Int → Int → D) : D → D → Out D := fun x y => match x, y with
  | .int i, .int j => if C i j then .ok (g i j) else .bad
  | _, _ => .bad
def gI0 (g : Int → Int → D) : D → D → Out D := fun x y => match x, y with
  | .int i, .int j => .ok (g i j)
  | _, _ => .bad
theorem noEx_I {C : Int → Int → Prop} [∀ i j, Decidable (C i j)] {g : Int → Int → D} : NoEx (gI C g) := fun a b x r h => by
  unfold gI at h
  split at h
  · split at h <;> cases h
  · cases h
theorem noEx_I0 {g : Int → Int → D} : NoEx (gI0 g) := fun a b x r h => by
  unfold gI0 at h
  split at h <;> cases h
theorem o_I {C : Int → Int → Prop} [∀ i j, Decidable (C i j)] {g : Int → Int → Int} : Op2' cm b (rI C fun i j => .int (g i j)) (gI C fun i j => .int (g i j)) := fun W H x y dx dy w rx ry Q hp => by
  unfold gI at hp
  split at hp
  · split at hp
    · cases rx; cases ry
      exact ⟨_, _, rfl, rfl, by assumption, hp _ H [] (Ex.refl H) (.int _) FpN.nil⟩
    · exact hp.elim
  · exact hp.elim
theorem o_I0 {g : Int → Int → Int} : Op2' cm b (rI0 fun i j => .int (g i j)) (gI0 fun i j => .int (g i j)) := fun W H x y dx dy w rx ry Q hp => by
  unfold gI0 at hp
  split at hp
  · cases rx; cases ry
    exact ⟨_, _, rfl, rfl, hp _ H [] (Ex.refl H) (.int _) FpN.nil⟩
  · exact hp.elim
theorem o_B0 {g : Int → Int → Bool} : Op2' cm b (rI0 fun i j => .bl (g i j)) (gI0 fun i j => .bl (g i j)) := fun W H x y dx dy w rx ry Q hp => by
  unfold gI0 at hp
  split at hp
  · cases rx; cases ry
    exact ⟨_, _, rfl, rfl, hp _ H [] (Ex.refl H) (.bl _) FpN.nil⟩
  · exact hp.elim
abbrev gAddI := gI0 fun i j => .int (i + j)
abbrev gSubI := gI0 fun i j => .int (i - j)
abbrev gMulI := gI CMul fun i j => .int (i * j)
abbrev gModI := gI (fun _ j => 0 < j) fun i j => .int (i % j)
abbrev gFdvI := gI CDiv fun i j => .int (i / j)
abbrev gPowI := gI CPow fun i j => .int (i ^ j.toNat)
abbrev gLt := gI0 fun i j => .bl (decide (i < j))
abbrev gLe := gI0 fun i j => .bl (decide (i ≤ j))
abbrev gGt := gI0 fun i j => .bl (decide (j < i))
variable {a c : Expr} {fa fb : F}
theorem de_addI (ha : DE X cm E false a fa) (hb : DE X cm E false c fb) : DE X cm E b (.BinOp a .Add c pos) (c2 gAddI fa fb) := de_op op_add o_I0 noEx_I0 ha hb
theorem de_subI (ha : DE X cm E false a fa) (hb : DE X cm E false c fb) : DE X cm E b (.BinOp a .Sub c pos) (c2 gSubI fa fb) := de_op op_sub o_I0 noEx_I0 ha hb
theorem de_mulI (ha : DE X cm E false a fa) (hb : DE X cm E false c fb) : DE X cm E b (.BinOp a .Mult c pos) (c2 gMulI fa fb) := de_op op_mul o_I noEx_I ha hb
theorem de_modI (ha : DE X cm E false a fa) (hb : DE X cm E false c fb) : DE X cm E b (.BinOp a .Mod c pos) (c2 gModI fa fb) := de_op op_mod o_I noEx_I ha hb
theorem de_fdvI (ha : DE X cm E false a fa) (hb : DE X cm E false c fb) : DE X cm E b (.BinOp a .FloorDiv c pos) (c2 gFdvI fa fb) := de_op op_fdiv o_I noEx_I ha hb
theorem de_powI (ha : DE X cm E false a fa) (hb : DE X cm E false c fb) : DE X cm E b (.BinOp a .Pow c pos) (c2 gPowI fa fb) := de_op op_pow o_I noEx_I ha hb
theorem dt_lt (ha : DE X cm E false a fa) (hb : DE X cm E false c fb) : DT X cm E (.Compare a [.Lt] [c] pos) (tB (c2 gLt fa fb)) := dt_cmp op_lt o_B0 noEx_I0 (nomark _) ha hb
theorem dt_gt (ha : DE X cm E false a fa) (hb : DE X cm E false c fb) : DT X cm E (.Compare a [.Gt] [c] pos) (tB (c2 gGt fa fb)) := dt_cmp op_gt o_B0 noEx_I0 (nomark _) ha hb
def gNeg : D → Out D
  | .int i => .ok (.int (-i))
  | _ => .bad
theorem de_neg (ha : DE X cm E false a fa) : DE X cm E b (.UnaryOp .USub a pos) (c1 gNeg fa) := by
  obtain ⟨ta, h1, h2⟩ := ha.ex
  refine ⟨_, pe_un un_neg h1, con1 (fun W H x dx w rx Q hp => ?_) (fun a x rr h => by unfold gNeg at h; split at h <;> cases h) h2⟩
  unfold gNeg at hp
  split at hp
  · cases rx
    exact ⟨_, rfl, hp _ H [] (Ex.refl H) (.int _) FpN.nil⟩
  · exact hp.elim
def c3 (g g' : D → D → Out D) (fa fb fc : F) : F := fun r => (fa r).bind fun a => (fb r).bind fun b => (g a b).bind fun z => (isB z).bind fun k => if k = true then (fc r).bind fun c => g' b c else .ok (.bl false)
theorem con3 {ta tb tc : TE} {fc : F} {r r' : R2} {g g' : D → D → Out D} (ho : Op2' cm false r g) (ho' : Op2' cm b r' g') (hn : NoEx g) (hn' : NoEx g') (h2 : ECon cm E false ta fa) (h4 : ECon cm E false tb fb) (h6 : ECon cm E false tc fc) : ECon cm E b (tChain r r' ta tb tc) (c3 g g' fa fb fc) := by
  refine fun W H σ env w fr Q hp => h2 W H σ env w fr _ (hp.bind.mono (fun a q v H1 fp e1 r1 f1 => h4 W H1 σ env (w.ex e1) (fr.ex e1) _ (q.bind.mono (fun c q2 u H2 fp2 e2 r2 f2 => ?_) fun x rr z => XPost.ex e1 z)) fun _ _ z => z)
  cases (show fp = [] from f1)
  cases (show fp2 = [] from f2)
  refine ho W H2 v u a c ((w.ex e1).ex e2) (r1.ex e2).ofP r2.ofP _ (Post.noX (q2.bind.mono (fun d q3 z H3 fp3 e3 r3 f3 => ?_) fun _ _ z => z) (hn a c))
  cases d <;> first | exact q3.elim | skip
  cases r3
  rename_i k
  refine ⟨k, rfl, ?_⟩
  cases k with
  | true =>
    refine h6 W H3 σ env (((w.ex e1).ex e2).ex e3) (((fr.ex e1).ex e2).ex e3) _ ((Post.bind (o := fc env) q3).mono (fun d q4 v4 H4 fp4 e4 r4 f4 => ?_) fun x rr z => XPost.ex ((e1.trans e2).trans e3) z)
    cases (show fp4 = [] from f4)
    exact ho' W H4 u v4 c d ((((w.ex e1).ex e2).ex e3).ex e4) ((r2.ex e3).ex e4).ofP r4.ofP Q (Post.noX (q4.mono (fun d q5 z H5 fp5 e5 r5 f5 => q5 z H5 fp5 ((((e1.trans e2).trans e3).trans e4).trans e5) r5 (f5.ex (((e1.trans e2).trans e3).trans e4))) fun _ _ z => z) (hn' c d))
  | false => exact q3 (.bl false) H3 [] ((e1.trans e2).trans e3) (.bl false) FpN.nil
theorem de_chain {d : Expr} {fc : F} {op op' : CmpOp} {r r' : R2} {g g' : D → D → Out D} (hr : OpR X (compareOp op) r) (hr' : OpR X (compareOp op') r') (ho : Op2' cm false r g) (ho' : Op2' cm b r' g') (hn : NoEx g) (hn' : NoEx g') (ha : DE X cm E false a fa) (hb : DE X cm E false c fb) (hd : DE X cm E false d fc)
    (hm : lastMarks [op, op'] [c, d] = false := by with_unfolding_all rfl) : DE X cm E b (.Compare a [op, op'] [c, d] pos) (c3 g g' fa fb fc) := by
  obtain ⟨ta, h1, h2⟩ := ha.ex
  obtain ⟨tb, h3, h4⟩ := hb.ex
  obtain ⟨tc, h5, h6⟩ := hd.ex
  exact ⟨_, pe_chain hr hr' h1 h3 h5 hm, con3 ho ho' hn hn' h2 h4 h6⟩
theorem dt_chain {d : Expr} {fc : F} {op op' : CmpOp} {r r' : R2} {g g' : D → D → Out D} (hr : OpR X (compareOp op) r) (hr' : OpR X (compareOp op') r') (ho : Op2' cm false r g) (ho' : Op2' cm false r' g') (hn : NoEx g) (hn' : NoEx g') (ha : DE X cm E false a fa) (hb : DE X cm E false c fb) (hd : DE X cm E false d fc)
    (hm : lastMarks [op, op'] [c, d] = false := by with_unfolding_all rfl) : DT X cm E (.Compare a [op, op'] [c, d] pos) (tB (c3 g g' fa fb fc)) := by
  obtain ⟨ta, h1, h2⟩ := ha.ex
  obtain ⟨tb, h3, h4⟩ := hb.ex
  obtain ⟨tc, h5, h6⟩ := hd.ex
  refine ⟨_, pt_chain hr hr' h1 h3 h5 hm, fun W H σ r w fr Q hp => con3 ho ho' hn hn' h2 h4 h6 W H σ r w fr _ (hp.bind.mono (fun d q v H1 fp e1 r1 f1 => ?_) fun _ _ z => z)⟩
  cases d <;> first | exact q.elim | skip
  cases r1
  exact ⟨_, rfl, q H1 e1⟩
theorem dt_lele {d : Expr} {fc : F} (ha : DE X cm E false a fa) (hb : DE X cm E false c fb) (hd : DE X cm E false d fc) (hm : lastMarks [.LtE, .LtE] [c, d] = false := by with_unfolding_all rfl) : DT X cm E (.Compare a [.LtE, .LtE] [c, d] pos) (tB (c3 gLe gLe fa fb fc)) := dt_chain op_le op_le o_B0 o_B0 noEx_I0 noEx_I0 ha hb hd hm
theorem de_lele {d : Expr} {fc : F} (ha : DE X cm E false a fa) (hb : DE X cm E false c fb) (hd : DE X cm E false d fc) (hm : lastMarks [.LtE, .LtE] [c, d] = false := by with_unfolding_all rfl) : DE X cm E b (.Compare a [.LtE, .LtE] [c, d] pos) (c3 gLe gLe fa fb fc) := de_chain op_le op_le o_B0 o_B0 noEx_I0 noEx_I0 ha hb hd hm
theorem de_lelt {d : Expr} {fc : F} (ha : DE X cm E false a fa) (hb : DE X cm E false c fb) (hd : DE X cm E false d fc) (hm : lastMarks [.LtE, .Lt] [c, d] = false := by with_unfolding_all rfl) : DE X cm E b (.Compare a [.LtE, .Lt] [c, d] pos) (c3 gLe gLt fa fb fc) := de_chain op_le op_lt o_B0 o_B0 noEx_I0 noEx_I0 ha hb hd hm

theorem strApp (x y : List Nat) : (⟨x.toArray⟩ : Str) ++ ⟨y.toArray⟩ = ⟨(x ++ y).toArray⟩ := by
  show (⟨x.toArray ++ y.toArray⟩ : Str) = _
  rw [List.append_toArray]
theorem strLen (x : List Nat) : (⟨x.toArray⟩ : Str).length = x.length := by
  show x.toArray.size = _
  simp
theorem line6 {n : Nat} (h : n ≤ 1000000) : n ≤ sizeLine := Nat.le_trans h (by decide)
def gAddS : D → D → Out D := fun x y => match x, y with
  | .str u, .str v => if u.length + v.length ≤ 1000000 then .ok (.str (u ++ v)) else .bad
  | _, _ => .bad
theorem noEx_addS : NoEx gAddS := fun a b x r h => by
  unfold gAddS at h
  split at h
  · split at h <;> cases h
  · cases h
theorem o_addS : Op2' cm b (fun x y H Q => ∃ i j, x = .str i ∧ y = .str j ∧ i.length + j.length ≤ sizeLine ∧ Q (.str (i ++ j)) H) gAddS := fun W H x y dx dy w rx ry Q hp => by
  unfold gAddS at hp
  split at hp
  · split at hp
    · cases rx; cases ry
      refine ⟨_, _, rfl, rfl, by rw [strLen, strLen]; exact line6 (by assumption), ?_⟩
      rw [strApp]
      exact hp _ H [] (Ex.refl H) (.str _) FpN.nil
    · exact hp.elim
  · exact hp.elim
theorem de_addS (ha : DE X cm E false a fa) (hb : DE X cm E false c fb) : DE X cm E b (.BinOp a .Add c pos) (c2 gAddS fa fb) := de_op op_add_str o_addS noEx_addS ha hb
theorem strMul (x : List Nat) (n : Int) : Txt.mul ⟨x.toArray⟩ n = ⟨(List.replicate n.toNat x).flatten.toArray⟩ := by
  have fold : ∀ (m : Nat), (List.foldl (fun x1 x2 => x1 ++ x2) #[] (List.replicate m x.toArray)) = (List.replicate m x).flatten.toArray := by
    have gen : ∀ (m : Nat) (acc : List Nat), (List.foldl (fun x1 x2 => x1 ++ x2) acc.toArray (List.replicate m x.toArray)) = (acc ++ (List.replicate m x).flatten).toArray := by
      intro m
      induction m with
      | zero => intro acc; simp
      | succ m ih =>
        intro acc
        rw [List.replicate_succ, List.replicate_succ, List.foldl_cons, List.append_toArray, ih, List.flatten_cons, List.append_assoc]
    intro m
    have := gen m []
    rw [List.nil_append] at this
    exact this
  unfold Txt.mul
  split
  · have : n.toNat = 0 := by omega
    rw [this]; rfl
  · split
    · rename_i h1 h
      have h : n = 1 ∨ x.length = 0 := by simpa [strLen] using h
      rcases h with h | h
      · subst h; simp
      · have : x = [] := List.eq_nil_of_length_eq_zero h
        subst this; simp
    · rw [fold]
def gMulS : D → D → Out D := fun x y => match x, y with
  | .str u, .int n => if u.length ≤ 1000 ∧ -1000 ≤ n ∧ n ≤ 1000 then .ok (.str (List.replicate n.toNat u).flatten) else .bad
  | _, _ => .bad
theorem op_mulS : OpR X (binaryOp .Mult) (fun x y H Q => ∃ u n, x = .str u ∧ y = .int n ∧ MulOk u n ∧ Q (.str (Txt.mul u n)) H) := by
  intro pins s σ H x y v u Q I rx ry h
  obtain ⟨z, n, rfl, rfl, ok, q⟩ := h
  obtain ⟨t, rfl⟩ := rx
  obtain ⟨t', rfl⟩ := ry
  exact SB.mul ok fun t' k => ⟨.str _, H, I.tok k, ⟨_, rfl⟩, q⟩
theorem noEx_mulS : NoEx gMulS := fun a b x r h => by
  unfold gMulS at h
  split at h
  · split at h <;> cases h
  · cases h
theorem o_mulS : Op2' cm b (fun x y H Q => ∃ u n, x = .str u ∧ y = .int n ∧ MulOk u n ∧ Q (.str (Txt.mul u n)) H) gMulS := fun W H x y dx dy w rx ry Q hp => by
  unfold gMulS at hp
  split at hp
  · split at hp
    · rename_i h
      cases rx; cases ry
      refine ⟨_, _, rfl, rfl, PyProof.Rows.mulOk_of 1000 1000 (by rw [strLen]; exact h.1) (by omega) (by omega) (by decide) (by decide), ?_⟩
      rw [strMul]
      exact hp _ H [] (Ex.refl H) (.str _) FpN.nil
    · exact hp.elim
  · exact hp.elim
theorem de_mulS (ha : DE X cm E false a fa) (hb : DE X cm E false c fb) : DE X cm E b (.BinOp a .Mult c pos) (c2 gMulS fa fb) := de_op op_mulS o_mulS noEx_mulS ha hb

theorem app_nil {α : Type} {x y : List α} (h : [] = x ++ y) : x = [] ∧ y = [] := List.append_eq_nil_iff.mp h.symm
theorem Reps.at {W : Addr → Prop} {H : Hp} : ∀ {vs : List V} {ds : List D} {fp : List Addr}, Reps cm W H vs ds fp → fp = [] → ∀ {i : Nat} {d : D}, ds[i]? = some d → ∃ v, vs[i]? = some v ∧ Rep cm W H v d []
  | _, _, _, .nil, _, i, d, h => by simp at h
  | _, _, _, .cons (fp := fp1) (fps := fp2) h1 h2, hf, i, d, h => by
    obtain ⟨rfl, rfl⟩ := app_nil hf.symm
    cases i with
    | zero =>
      simp at h; subst h
      exact ⟨_, rfl, h1⟩
    | succ i => exact Reps.at h2 rfl (i := i) (by simpa using h)
theorem atI_map {α β : Type} {xs : List α} {ys : List β} (hl : xs.length = ys.length) {i : Int} {y : β} (h : atI ys i = some y) : ∃ j : Nat, ys[j]? = some y ∧ ∀ x, xs[j]? = some x → atI xs i = some x := by
  unfold atI at h ⊢
  cases e : ixN ys.length i with
  | none => rw [e] at h; cases h
  | some j =>
    rw [e] at h
    refine ⟨j, h, fun x hx => ?_⟩
    rw [hl, e]
    exact hx
theorem Reps.atI {W : Addr → Prop} {H : Hp} {vs : List V} {ds : List D} {i : Int} {d : D} (r : Reps cm W H vs ds []) (h : L2.atI ds i = some d) : ∃ v, L2.atI vs i = some v ∧ Rep cm W H v d [] := by
  obtain ⟨j, h1, h2⟩ := atI_map r.len h
  obtain ⟨v, h3, h4⟩ := r.at rfl h1
  exact ⟨v, h2 v h3, h4⟩
def ofO {α : Type} : Option α → Out α
  | some a => .ok a
  | none => .bad
def gIx : D → D → Out D := fun x y => match x, y with
  | .lst _ xs, .int i => ofO (atI xs i)
  | .tup xs, .int i => ofO (atI xs i)
  | .str cs, .int i => if cs.length ≤ 1000000 then ofO ((atI cs i).map fun c => .str [c]) else .bad
  | .scr ns, .int i => ofO ((atI ns i).map fun n => .int n)
  | _, _ => .bad
theorem noEx_ix : NoEx gIx := fun a b x r h => by
  unfold gIx at h
  split at h
  · unfold ofO at h; split at h <;> cases h
  · unfold ofO at h; split at h <;> cases h
  · split at h
    · unfold ofO at h; split at h <;> cases h
    · cases h
  · unfold ofO at h; split at h <;> cases h
  · cases h
theorem Post.ofO {α : Type} {o : Option α} {q : α → Prop} {e : Xc → Env → Prop} (h : Post (ofO o) q e) : ∃ a, o = some a ∧ q a := by
  cases o with
  | none => exact h.elim
  | some a => exact ⟨a, rfl, h⟩
theorem o_ix (hk : X.K = cm.K) : Op2' cm b (rIx X.K) gIx := fun W H x y dx dy w rx ry Q hp => by
  unfold gIx at hp
  split at hp
  · obtain ⟨d, h1, h2⟩ := hp.ofO
    cases ry
    generalize hf : ([] : List Addr) = fp at rx
    cases rx with
    | lstO => cases hf
    | lstF h n r =>
      obtain ⟨v, h3, h4⟩ := r.atI h1
      exact .inl ⟨_, _, _, v, rfl, rfl, SqL.of h, h3, h2 v H [] (Ex.refl H) h4.toP FpN.nil⟩
  · obtain ⟨d, h1, h2⟩ := hp.ofO
    cases ry
    generalize hf : ([] : List Addr) = fp at rx
    cases rx with
    | tup h n r =>
      subst hf
      obtain ⟨v, h3, h4⟩ := r.atI h1
      exact .inr (.inl ⟨_, _, _, v, rfl, rfl, SqT.of h, h3, h2 v H [] (Ex.refl H) h4.toP FpN.nil⟩)
  · split at hp
    · obtain ⟨d, h1, h2⟩ := hp.ofO
      cases ry
      cases rx
      rename_i hz
      obtain ⟨cc, h3, rfl⟩ := Option.map_eq_some_iff.mp h1
      exact .inr (.inr ⟨_, _, cc, rfl, rfl, by rw [strLen]; exact line6 hz, h3, h2 _ H [] (Ex.refl H) (.str _) FpN.nil⟩)
    · exact hp.elim
  · obtain ⟨d, h1, h2⟩ := hp.ofO
    cases ry
    obtain ⟨n, h3, rfl⟩ := Option.map_eq_some_iff.mp h1
    rename_i ns i
    have h4 : L2.atI (ns.map V.int) i = some (.int n) := by
      obtain ⟨j, q1, q2⟩ := atI_map (xs := ns.map V.int) (by simp) h3
      exact q2 _ (by simp [q1])
    cases rx with
    | scrF h nw => exact .inl ⟨_, _, _, _, rfl, rfl, .inl (.inr ⟨_, h⟩), h4, h2 _ H [] (Ex.refl H) (.int _) FpN.nil⟩
    | scrK h => exact .inl ⟨_, _, _, _, rfl, rfl, by rw [hk]; exact h H, h4, h2 _ H [] (Ex.refl H) (.int _) FpN.nil⟩
  · exact hp.elim
theorem de_item (hk : X.K = cm.K) (ha : DE X cm E false a fa) (hb : DE X cm E false c fb) (hs : PlainIx c := by exact fun _ _ => rfl) : DE X cm E b (.Subscript a c pos) (c2 gIx fa fb) := de_ix ix_seq (o_ix hk) noEx_ix hs ha hb

def cA (g : List D → Out D) (fs : Env → Out (List D)) : F := fun r => (fs r).bind g
def RA (cm : Cm) (b : Bool) (r : List V → Hp → VK → Prop) (g : List D → Out D) : Prop := ∀ W H vs ds, WOk cm W H → Reps cm W H vs ds [] → ∀ Q : VK, Post (g ds) (QP cm W b H Q) noX → r vs H Q
def NoExA (g : List D → Out D) : Prop := ∀ a x r, g a ≠ .exn x r
theorem conA {r : List V → Hp → VK → Prop} {g : List D → Out D} {ta : TA} {fs : Env → Out (List D)} (ho : RA cm b r g) (hn : NoExA g) (ha : ACon cm E false ta fs) : ECon cm E b (tCB r ta) (cA g fs) := fun W H σ env w fr Q hp =>
  ha W H σ env w fr _ (hp.bind.mono (fun ds q vs H1 fp e1 r1 f1 => by
    cases (show fp = [] from f1)
    exact ho W H1 vs ds (w.ex e1) r1.ofP Q (Post.noX (q.mono (fun d q3 z H3 fp3 e3 r3 f3 => q3 z H3 fp3 (e1.trans e3) r3 (f3.ex e1)) fun _ _ z => z) (hn ds))) fun _ _ z => z)
theorem de_blt {id : String} {x : Str} {p : Pos} {e : Expr} {es : List Expr} {r : List V → Hp → VK → Prop} {g : List D → Out D} {fs : Env → Out (List D)} (hc : CallR X (.builtin id) r) (ho : RA cm b r g) (hn : NoExA g) (hg : Gl X x) (hm : X.mg x = none) (hv : bootBuiltins x = some (.builtin id)) (ha : DA X cm E false (e :: es) fs)
    (hnn : x ≠ "__name__" := by decide) (hdb : (x == ("__debug__" : Str)) = false := by decide) (he : starEach (e :: es) X.env = (false, eval e X.env) :: starEach es X.env := by rfl) (hpl : (backTo pos (starEach es X.env)).any (·.1) = false := by rfl) : DE X cm E b (.Call (.Name x p) (e :: es) [] pos) (cA g fs) := by
  obtain ⟨ta, h1, h2⟩ := ha.ex
  exact ⟨_, pe_callB hc hg hm hv h1 hnn hdb he hpl, conA ho hn h2⟩
theorem de_ty {T : String} {x : Str} {p : Pos} {e : Expr} {es : List Expr} {r : List V → Hp → VK → Prop} {g : List D → Out D} {fs : Env → Out (List D)} (hc : CallR X (.type T) r) (ho : RA cm b r g) (hn : NoExA g) (hg : Gl X x) (hm : X.mg x = none) (hv : bootBuiltins x = some (.type T)) (ha : DA X cm E false (e :: es) fs)
    (hnn : x ≠ "__name__" := by decide) (hdb : (x == ("__debug__" : Str)) = false := by decide) (he : starEach (e :: es) X.env = (false, eval e X.env) :: starEach es X.env := by rfl) (hpl : (backTo pos (starEach es X.env)).any (·.1) = false := by rfl) : DE X cm E b (.Call (.Name x p) (e :: es) [] pos) (cA g fs) := by
  obtain ⟨ta, h1, h2⟩ := ha.ex
  exact ⟨_, pe_callTy hc hg hm hv h1 hnn hdb he hpl, conA ho hn h2⟩
def g1 (g : D → Out D) : List D → Out D
  | [d] => g d
  | _ => .bad
theorem noEx_g1 {g : D → Out D} (h : ∀ a x r, g a ≠ .exn x r) : NoExA (g1 g) := fun a x r q => by
  unfold g1 at q
  split at q
  · exact h _ _ _ q
  · cases q
theorem ra_1 {r : List V → Hp → VK → Prop} {g : D → Out D} (h : ∀ W H v d, WOk cm W H → Rep cm W H v d [] → ∀ Q : VK, Post (g d) (QP cm W b H Q) noX → r [v] H Q) : RA cm b r (g1 g) := fun W H vs ds w rp Q hp => by
  unfold g1 at hp
  split at hp
  · generalize hf : ([] : List Addr) = fp at rp
    cases rp with
    | cons h1 h2 =>
      cases h2
      rw [List.append_nil] at hf
      subst hf
      exact h W H _ _ w h1 Q hp
  · exact hp.elim
def gLen : D → Out D
  | .str cs => if cs.length ≤ 1000000 then .ok (.int cs.length) else .bad
  | .lst _ xs => .ok (.int xs.length)
  | .tup xs => .ok (.int xs.length)
  | .scr ns => .ok (.int ns.length)
  | _ => .bad
theorem noEx_len : ∀ a x r, gLen a ≠ .exn x r := fun a x r h => by
  unfold gLen at h
  split at h
  · split at h <;> cases h
  all_goals cases h
theorem ra_len (hk : X.K = cm.K) : RA cm b (fun xs H Q => ∃ x n, xs = [x] ∧ LenV X.K x H n ∧ Q (.int n) H) (g1 gLen) := ra_1 fun W H v d w rp Q hp => by
  unfold gLen at hp
  split at hp
  · split at hp
    · cases rp
      rename_i hz
      exact ⟨_, _, rfl, ⟨by rw [strLen]; exact line6 hz, rfl⟩, by rw [strLen]; exact hp _ H [] (Ex.refl H) (.int _) FpN.nil⟩
    · exact hp.elim
  · generalize hf : ([] : List Addr) = fp at rp
    cases rp with
    | lstO => cases hf
    | lstF h n r => exact ⟨_, _, rfl, .inl ⟨_, SqL.of h, rfl⟩, by rw [r.len]; exact hp _ H [] (Ex.refl H) (.int _) FpN.nil⟩
  · generalize hf : ([] : List Addr) = fp at rp
    cases rp with
    | tup h n r => exact ⟨_, _, rfl, .inr ⟨_, SqT.of h, rfl⟩, by rw [r.len]; exact hp _ H [] (Ex.refl H) (.int _) FpN.nil⟩
  · rename_i ns
    have hl : (ns.map V.int).length = ns.length := List.length_map ..
    cases rp with
    | scrF h n => exact ⟨_, _, rfl, .inl ⟨_, .inl (.inr ⟨_, h⟩), rfl⟩, by rw [hl]; exact hp _ H [] (Ex.refl H) (.int _) FpN.nil⟩
    | scrK h => exact ⟨_, _, rfl, .inl ⟨_, by rw [hk]; exact h H, rfl⟩, by rw [hl]; exact hp _ H [] (Ex.refl H) (.int _) FpN.nil⟩
  · exact hp.elim
theorem de_len {p : Pos} {e : Expr} {fs : Env → Out (List D)} (hk : X.K = cm.K) (hg : Gl X "len") (hm : X.mg "len" = none) (ha : DA X cm E false [e] fs) (he : starEach [e] X.env = (false, eval e X.env) :: starEach [] X.env := by rfl) (hpl : (backTo pos (starEach [] X.env)).any (·.1) = false := by rfl) : DE X cm E b (.Call (.Name "len" p) [e] [] pos) (cA (g1 gLen) fs) :=
  de_blt call_len (ra_len hk) (noEx_g1 noEx_len) hg hm PySem.boot_len ha (by decide) (by decide) he hpl
end
end DL

namespace DL
variable [Tbs]
open PySem L2
inductive Ty where
  | int | bool | str | list | tuple | dict
def Ty.nm : Ty → String
  | .int => "int" | .bool => "bool" | .str => "str" | .list => "list" | .tuple => "tuple" | .dict => "dict"
def isTy : Ty → D → Bool
  | .int, .int _ => true
  | .int, .bl _ => true
  | .bool, .bl _ => true
  | .str, .str _ => true
  | .list, .lst _ _ => true
  | .list, .scr _ => true
  | .tuple, .tup _ => true
  | .dict, .dK _ _ _ => true
  | .dict, .dT _ _ _ => true
  | _, _ => false
structure ObC (K : PySem.W.Frag) (C : Addr) : Prop where
  cl : Cls K C
  ha : PySem.W.findIn K (.ref C) "__class__" = some (some (.builtin "object.__class__"))
  hn : PySem.W.specialIn K (.builtin "object.__class__") "__get__" = some (some (.builtin "getset_descriptor.__get__"))
  htk : PySem.W.takesIn K (.builtin "object.__class__") = some true
  hm : PySem.W.mroIn K C (.type "object") = some true
  nb : ∀ t : Ty, PySem.W.kitOne K (.ref C) (.type t.nm) = some false
def CmOk (cm : Cm) : Prop := ∀ c, cm.ok c → ObC cm.K (cm.cl c)
theorem kb_non (t : Ty) : kitB "NoneType" t.nm = some false := by cases t <;> decide +kernel
def bInt : Ty → Bool
  | .int => true | _ => false
def bBool : Ty → Bool
  | .int => true | .bool => true | _ => false
def bStr : Ty → Bool
  | .str => true | _ => false
def bList : Ty → Bool
  | .list => true | _ => false
def bTup : Ty → Bool
  | .tuple => true | _ => false
def bDict : Ty → Bool
  | .dict => true | _ => false
theorem kb_bool (t : Ty) : kitB "bool" t.nm = some (bBool t) := by cases t <;> decide +kernel
theorem kb_int (t : Ty) : kitB "int" t.nm = some (bInt t) := by cases t <;> decide +kernel
theorem kb_str (t : Ty) : kitB "str" t.nm = some (bStr t) := by cases t <;> decide +kernel
theorem kb_list (t : Ty) : kitB "list" t.nm = some (bList t) := by cases t <;> decide +kernel
theorem kb_tup (t : Ty) : kitB "tuple" t.nm = some (bTup t) := by cases t <;> decide +kernel
theorem kb_dict (t : Ty) : kitB "dict" t.nm = some (bDict t) := by cases t <;> decide +kernel
theorem Rep.ty {cm : Cm} (hC : CmOk cm) (t : Ty) {W : Addr → Prop} {H : Hp} {v : V} {d : D} {fp : List Addr} (h : Rep cm W H v d fp) (nd : ∀ ks xs o, d ≠ .dT o ks xs ∨ ∃ p kvs, v = .ref p ∧ H p = some (.dT kvs)) (ns : ∀ ns, d ≠ .scr ns ∨ ∃ p o xs, v = .ref p ∧ H p = some (.frz o (.lst xs))) (ne : ∀ c fs xs, d ≠ .exc c fs xs) (na : d ≠ .any) (nn : ∀ o ks xs, d ≠ .dN o ks xs) :
    ∃ ty, TyX cm.K H v ty ∧ PySem.W.kitOne cm.K ty (.type t.nm) = some (isTy t d) := by
  cases h with
  | non => exact ⟨_, .base .non, by rw [kit_ty (kb_non t)]; cases t <;> rfl⟩
  | bl b => exact ⟨_, .base (.bl b), by rw [kit_ty (kb_bool t)]; cases t <;> rfl⟩
  | int b => exact ⟨_, .base (.int b), by rw [kit_ty (kb_int t)]; cases t <;> rfl⟩
  | str b => exact ⟨_, .base (.str _), by rw [kit_ty (kb_str t)]; cases t <;> rfl⟩
  | lstO h r => exact ⟨_, .base (.lst h), by rw [kit_ty (kb_list t)]; cases t <;> rfl⟩
  | lstF h n r => exact ⟨_, .base (.lst h), by rw [kit_ty (kb_list t)]; cases t <;> rfl⟩
  | tup h n r => exact ⟨_, .base (.tup h), by rw [kit_ty (kb_tup t)]; cases t <;> rfl⟩
  | dKO h l r => exact ⟨_, .base (.dK h), by rw [kit_ty (kb_dict t)]; cases t <;> rfl⟩
  | dKF h l n r =>
    rcases h with h | ⟨o, h⟩
    · exact ⟨_, .base (.dK h), by rw [kit_ty (kb_dict t)]; cases t <;> rfl⟩
    · exact ⟨_, .fDict h, by rw [kit_ty (kb_dict t)]; cases t <;> rfl⟩
  | dTO h l r => exact ⟨_, .base (.dT h), by rw [kit_ty (kb_dict t)]; cases t <;> rfl⟩
  | dTF h l n r =>
    rcases nd _ _ _ with q | ⟨p, kvs, e, q⟩
    · exact absurd rfl q
    · cases e
      exact ⟨_, .base (.dT q), by rw [kit_ty (kb_dict t)]; cases t <;> rfl⟩
  | objO h l r =>
    have c := hC _ l.2
    exact ⟨_, .base (.ins h c.cl c.ha c.hn c.htk c.hm), by cases t <;> exact c.nb _⟩
  | objF h l n r =>
    have c := hC _ l.2
    exact ⟨_, .base (.ins h c.cl c.ha c.hn c.htk c.hm), by cases t <;> exact c.nb _⟩
  | scrF h n => exact ⟨_, .base (.frz h), by rw [kit_ty (kb_list t)]; cases t <;> rfl⟩
  | scrK h =>
    rcases ns _ with q | ⟨p, o, xs, e, q⟩
    · exact absurd rfl q
    · cases e
      exact ⟨_, .base (.frz q), by rw [kit_ty (kb_list t)]; cases t <;> rfl⟩
  | exc => exact absurd rfl (ne _ _ _)
  | any => exact absurd rfl na
  | dNO => exact absurd rfl (nn _ _ _)
  | dNF => exact absurd rfl (nn _ _ _)
def gIsi (t : Ty) : D → Out D := fun d => match d with
  | .dT false _ _ => .bad
  | .scr _ => .bad
  | .exc _ _ _ => .bad
  | .any => .bad
  | .dN _ _ _ => .bad
  | _ => .ok (.bl (isTy t d))
section
variable {X : Cx} {cm : Cm} {E : XS} {b : Bool} {pos : Pos} {a c : Expr} {fa fb : F}
theorem de_isi (t : Ty) {x : Str} {p p2 : Pos} (hk : X.K = cm.K) (hC : CmOk cm) (hg : Gl X "isinstance") (hm : X.mg "isinstance" = none) (hg2 : Gl X x) (hm2 : X.mg x = none) (ha : DE X cm E false a fa) (hv : bootBuiltins x = some (.type t.nm) := by decide +kernel)
    (hnn : x ≠ "__name__" := by decide) (hdb : (x == ("__debug__" : Str)) = false := by decide) (hs1 : starEach [a, .Name x p2] X.env = (false, eval a X.env) :: starEach [.Name x p2] X.env := by rfl) (hs2 : starEach [.Name x p2] X.env = (false, eval (.Name x p2) X.env) :: starEach [] X.env := by rfl) (hpl : (backTo pos (starEach [.Name x p2] X.env)).any (·.1) = false := by rfl) :
    DE X cm E b (.Call (.Name "isinstance" p) [a, .Name x p2] [] pos) (c1 (gIsi t) fa) := by
  obtain ⟨ta, h1, h2⟩ := ha.ex
  refine ⟨_, pe_callB call_isi hg hm PyProof.Rows.boot_isinstance (pa_cons h1 (pa_cons (pe_bltn (v := .ty t.nm) hg2 hm2 hv rfl hnn hdb) pa_nil hs2) hs1) (by decide) (by decide) hs1 hpl, fun W H σ env w fr Q hp => h2 W H σ env w fr _ (hp.bind.mono (fun d q v H1 fp e1 r1 f1 => ?_) fun _ _ z => z)⟩
  show rIsi X.K [v, .ty t.nm] H1 Q
  have q' : gIsi t d = .ok (.bl (isTy t d)) ∧ ((∀ ks xs o, d ≠ .dT o ks xs ∨ ∃ p kvs, v = .ref p ∧ H1 p = some (.dT kvs)) ∧ (∀ ns, d ≠ .scr ns ∨ ∃ p o xs, v = .ref p ∧ H1 p = some (.frz o (.lst xs))) ∧ (∀ c fs xs, d ≠ .exc c fs xs) ∧ d ≠ .any ∧ ∀ o ks xs, d ≠ .dN o ks xs) := by
    unfold gIsi at q ⊢
    split at q
    · exact q.elim
    · exact q.elim
    · exact q.elim
    · exact q.elim
    · exact q.elim
    · rename_i n1 n2 n3 n4 n5
      refine ⟨rfl, fun ks xs o => ?_, fun ns => .inl (n2 ns), n3, n4, n5⟩
      cases o with
      | false => exact .inl (n1 ks xs)
      | true =>
        by_cases hd : d = .dT true ks xs
        · subst hd
          cases (show fp = [] from f1)
          cases r1
        · exact .inl hd
  obtain ⟨qe, q1, q2, q3, q4, q5⟩ := q'
  rw [qe] at q
  obtain ⟨ty, k1, k2⟩ := r1.ofP.ty hC t q1 q2 q3 q4 q5
  exact ⟨v, .ty t.nm, ty, .type t.nm, isTy t d, rfl, .ty _, by rw [hk]; exact k1, by rw [hk]; exact k2, q _ H1 [] e1 (.bl _) FpN.nil⟩

def gIsN (neg : Bool) : D → D → Out D := fun x y => match y with
  | .non => match x with
    | .non => .ok (.bl (true != neg))
    | .any => .bad
    | _ => .ok (.bl (false != neg))
  | .bl k => match x with
    | .bl j => .ok (.bl ((j == k) != neg))
    | _ => .bad
  | _ => .bad
theorem noEx_isN {neg : Bool} : NoEx (gIsN neg) := fun a b x r h => by
  unfold gIsN at h
  split at h <;> first | cases h | (split at h <;> cases h)
theorem Rep.nonIff {W : Addr → Prop} {H : Hp} {v : V} {d : D} {fp : List Addr} (h : Rep cm W H v d fp) (na : d ≠ .any) : decide (v = .non) = (match d with | .non => true | _ => false) := by
  cases h <;> first | rfl | exact absurd rfl na
def rIsA (neg : Bool) : R2 := fun x y H Q => (y = .non ∧ Q (.bl (decide (x = .non) != neg)) H) ∨ ∃ i j : Bool, x = .bl i ∧ y = .bl j ∧ Q (.bl (decide (i = j) != neg)) H
theorem op_isA : OpR X (compareOp .Is) (rIsA false) := by
  intro pins s σ H x y v u Q I rx ry h
  rcases h with ⟨e, q⟩ | ⟨i, j, e1, e2, q⟩
  · exact op_isN pins s σ H x y v u Q I rx ry ⟨e, by simpa using q⟩
  · exact op_isBl pins s σ H x y v u Q I rx ry ⟨i, j, e1, e2, by simpa using q⟩
theorem op_isnA : OpR X (compareOp .IsNot) (rIsA true) := by
  intro pins s σ H x y v u Q I rx ry h
  rcases h with ⟨e, q⟩ | ⟨i, j, e1, e2, q⟩
  · exact op_notN pins s σ H x y v u Q I rx ry ⟨e, by simpa using q⟩
  · exact op_notBl pins s σ H x y v u Q I rx ry ⟨i, j, e1, e2, by simpa using q⟩
theorem o_is {neg : Bool} : Op2' cm b (rIsA neg) (gIsN neg) := fun W H x y dx dy w rx ry Q hp => by
  unfold gIsN at hp
  split at hp
  · cases ry
    refine .inl ⟨rfl, ?_⟩
    have na : dx ≠ .any := fun z => by subst z; exact hp.elim
    rw [rx.nonIff na]
    cases dx <;> first | exact absurd rfl na | exact hp _ H [] (Ex.refl H) (.bl _) FpN.nil
  · split at hp
    · cases rx; cases ry
      refine .inr ⟨_, _, rfl, rfl, ?_⟩
      rw [show ∀ i j : Bool, decide (i = j) = (i == j) from fun i j => by cases i <;> cases j <;> rfl]
      exact hp _ H [] (Ex.refl H) (.bl _) FpN.nil
    · exact hp.elim
  · exact hp.elim
theorem de_isn (ha : DE X cm E false a fa) (hb : DE X cm E false c fb) : DE X cm E b (.Compare a [.IsNot] [c] pos) (c2 (gIsN true) fa fb) := de_cmp op_isnA o_is noEx_isN (nomark _) ha hb
theorem dt_is (ha : DE X cm E false a fa) (hb : DE X cm E false c fb) : DT X cm E (.Compare a [.Is] [c] pos) (tB (c2 (gIsN false) fa fb)) := dt_cmp op_isA o_is noEx_isN (nomark _) ha hb
theorem dt_isn (ha : DE X cm E false a fa) (hb : DE X cm E false c fb) : DT X cm E (.Compare a [.IsNot] [c] pos) (tB (c2 (gIsN true) fa fb)) := dt_cmp op_isnA o_is noEx_isN (nomark _) ha hb

theorem Reps.newW {W : Addr → Prop} {H : Hp} {vs : List V} {ds : List D} {fp : List Addr} {p : Addr} {o : HO} (r : Reps cm W H vs ds fp) (hp : H p = none) : Reps cm (Wp W [p]) (upd H p o) vs ds fp :=
  r.move (fun a z => z.imp id fun m => by rw [List.mem_singleton.mp m]; exact hp) fun a o q t _ => (Ex.new hp).get a o q t
theorem fpN_new {H : Hp} {p : Addr} (h : H p = none) : FpN true H [p] := ⟨by simp, fun a m => by rw [List.mem_singleton.mp m]; exact h⟩
theorem Reps.app {W : Addr → Prop} {H : Hp} : ∀ {vs : List V} {ds : List D} {fp : List Addr}, Reps cm W H vs ds fp → ∀ {us : List V} {es : List D} {fq : List Addr}, Reps cm W H us es fq → Reps cm W H (vs ++ us) (ds ++ es) (fp ++ fq)
  | _, _, _, .nil, _, _, _, q => q
  | _, _, _, .cons h r, us, es, fq, q => by
    rw [List.append_assoc]
    exact .cons h (Reps.app r q)
def gCat : D → D → Out D := fun x y => match x, y with
  | .lst _ u, .lst _ v => if u.length + v.length ≤ 1000000 then .ok (.lst true (u ++ v)) else .bad
  | _, _ => .bad
theorem o_cat : Op2' cm true rCat gCat := fun W H x y dx dy w rx ry Q hp => by
  unfold gCat at hp
  split at hp
  · split at hp
    · rename_i hz
      generalize hf : ([] : List Addr) = fp at rx
      generalize hg : ([] : List Addr) = fq at ry
      cases rx with
      | lstO => cases hf
      | lstF h n r =>
        cases ry with
        | lstO => cases hg
        | lstF h' n' r' =>
          exact ⟨_, _, _, _, rfl, rfl, h, h', by rw [r.len, r'.len]; exact line6 hz, fun p hp' => hp (.ref p) _ [p] (Ex.new hp') (.lstO (fp := []) upd_same (Reps.app (r.newW hp') (r'.newW hp'))) (fpN_new hp')⟩
    · exact hp.elim
  · exact hp.elim
theorem noEx_cat : NoEx gCat := fun a b x r h => by
    unfold gCat at h
    split at h
    · split at h <;> cases h
    · cases h
theorem de_cat (ha : DE X cm E false a fa) (hb : DE X cm E false c fb) : DE X cm E true (.BinOp a .Add c pos) (c2 gCat fa fb) := de_op op_cat o_cat noEx_cat ha hb
theorem Reps.rep {W : Addr → Prop} {H : Hp} {vs : List V} {ds : List D} (r : Reps cm W H vs ds []) : ∀ k : Nat, Reps cm W H (List.replicate k vs).flatten (List.replicate k ds).flatten []
  | 0 => .nil
  | k + 1 => by
    rw [List.replicate_succ, List.replicate_succ, List.flatten_cons, List.flatten_cons]
    exact Reps.app r (Reps.rep r k)
def gMulL : D → D → Out D := fun x y => match x, y with
  | .lst _ u, .int n => if u.length ≤ 1000 ∧ -1000 ≤ n ∧ n ≤ 1000 then .ok (.lst true (List.replicate n.toNat u).flatten) else .bad
  | _, _ => .bad
theorem o_mulL : Op2' cm true rRep gMulL := fun W H x y dx dy w rx ry Q hp => by
  unfold gMulL at hp
  split at hp
  · split at hp
    · rename_i hz
      cases ry
      generalize hf : ([] : List Addr) = fp at rx
      cases rx with
      | lstO => cases hf
      | lstF h n r =>
        refine ⟨_, _, _, rfl, rfl, h, by omega, by omega, ?_, fun p hp' => hp (.ref p) _ [p] (Ex.new hp') (.lstO (fp := []) upd_same ((r.rep _).newW hp')) (fpN_new hp')⟩
        rw [r.len]
        exact line6 (Nat.le_trans (Nat.mul_le_mul hz.1 (show Int.toNat _ ≤ 1000 by omega)) (by decide))
    · exact hp.elim
  · exact hp.elim
theorem noEx_mulL : NoEx gMulL := fun a b x r h => by
    unfold gMulL at h
    split at h
    · split at h <;> cases h
    · cases h
theorem de_mulL (ha : DE X cm E false a fa) (hb : DE X cm E false c fb) : DE X cm E true (.BinOp a .Mult c pos) (c2 gMulL fa fb) := de_op op_rep o_mulL noEx_mulL ha hb
structure DO (X : Cx) (cm : Cm) (E : XS) (e : Option Expr) (f : Env → Out (Option Int)) : Prop where
  ex : ∃ t, PO X e t ∧ ∀ W H σ r, WOk cm W H → FRep cm W H σ r → ∀ Q : Option Int → Hp → Prop, Post (f r) (fun o => ∀ H', Ex H H' → Q o H') (XPost cm (E σ) W H) → t σ H Q
def oNone : Env → Out (Option Int) := fun _ => .ok none
def isI : D → Out Int
  | .int i => .ok i
  | _ => .bad
def oSome (f : F) : Env → Out (Option Int) := fun r => (f r).bind fun d => (isI d).bind fun i => .ok (some i)
theorem do_none : DO X cm E none oNone := ⟨_, po_none, fun W H σ r w fr Q hp => hp H (Ex.refl H)⟩
theorem do_some (ha : DE X cm E false a fa) : DO X cm E (some a) (oSome fa) := by
  obtain ⟨ta, h1, h2⟩ := ha.ex
  refine ⟨_, po_some h1, fun W H σ r w fr Q hp => h2 W H σ r w fr _ (hp.bind.mono (fun d q v H1 fp e1 r1 f1 => ?_) fun _ _ z => z)⟩
  cases d <;> first | exact q.elim | skip
  cases r1
  exact ⟨_, rfl, q H1 e1⟩
def cut {α : Type} (xs : List α) (lo hi : Option Int) : List α := (xs.drop (HT.sIx xs.length 0 lo)).take (HT.sIx xs.length xs.length hi - HT.sIx xs.length 0 lo)
def cSl (g : D → Option Int → Option Int → Out D) (f : F) (l h : Env → Out (Option Int)) : F := fun r => (f r).bind fun d => (l r).bind fun i => (h r).bind fun j => g d i j
def gSl : D → Option Int → Option Int → Out D := fun d lo hi => match d with
  | .str cs => if cs.length ≤ 1000000 then .ok (.str (cut cs lo hi)) else .bad
  | .lst _ xs => .ok (.lst true (cut xs lo hi))
  | .tup xs => if HT.sIx xs.length 0 lo = 0 ∧ HT.sIx xs.length xs.length hi = xs.length then .bad else .ok (.tup (cut xs lo hi))
  | _ => .bad
def gSlS : D → Option Int → Option Int → Out D := fun d lo hi => match d with
  | .str cs => if cs.length ≤ 1000000 then .ok (.str (cut cs lo hi)) else .bad
  | .tup xs => if HT.sIx xs.length 0 lo = 0 ∧ HT.sIx xs.length xs.length hi = xs.length then .bad else .ok (.tup (cut xs lo hi))
  | _ => .bad
theorem Reps.drop {W : Addr → Prop} {H : Hp} : ∀ (n : Nat) {vs : List V} {ds : List D} {fp : List Addr}, Reps cm W H vs ds fp → fp = [] → Reps cm W H (vs.drop n) (ds.drop n) []
  | 0, _, _, _, r, e => by subst e; exact r
  | n + 1, _, _, _, .nil, _ => .nil
  | n + 1, _, _, _, .cons h r, e => by
    obtain ⟨rfl, rfl⟩ := app_nil e.symm
    exact Reps.drop n r rfl
theorem Reps.take {W : Addr → Prop} {H : Hp} : ∀ (n : Nat) {vs : List V} {ds : List D} {fp : List Addr}, Reps cm W H vs ds fp → fp = [] → Reps cm W H (vs.take n) (ds.take n) []
  | 0, _, _, _, r, e => .nil
  | n + 1, _, _, _, .nil, _ => .nil
  | n + 1, _, _, _, .cons h r, e => by
    obtain ⟨rfl, rfl⟩ := app_nil e.symm
    exact .cons (fp := []) h (Reps.take n r rfl)
theorem Reps.cut {W : Addr → Prop} {H : Hp} {vs : List V} {ds : List D} (r : Reps cm W H vs ds []) (lo hi : Option Int) : Reps cm W H (cutV vs lo hi) (DL.cut ds lo hi) [] := by
  unfold cutV DL.cut
  rw [r.len]
  exact (r.drop _ rfl).take _ rfl
theorem strCut (cs : List Nat) (lo hi : Option Int) : cutS ⟨cs.toArray⟩ lo hi = ⟨(cut cs lo hi).toArray⟩ := by
  unfold cutS cut
  rw [strLen]
def rSlA (K : PySem.W.Frag) : V → Option Int → Option Int → Hp → VK → Prop := fun x lo hi H Q => rSlS x lo hi H Q ∨ rSlL K x lo hi H Q ∨ rSlT K x lo hi H Q
theorem sl_all : SlR X (rSlA X.K) := sl_str.or (sl_list.or sl_tup)
theorem conSl {g : D → Option Int → Option Int → Out D} {ta : TE} {t1 t2 : TO} {f1 f2 : Env → Out (Option Int)} (hn : ∀ d i j x r, g d i j ≠ .exn x r)
    (ho : ∀ W H v d lo hi, WOk cm W H → Rep cm W H v d [] → ∀ Q : VK, Post (g d lo hi) (QP cm W b H Q) noX → rSlA X.K v lo hi H Q) (ha : ECon cm E false ta fa)
    (h1 : ∀ W H σ r, WOk cm W H → FRep cm W H σ r → ∀ Q : Option Int → Hp → Prop, Post (f1 r) (fun o => ∀ H', Ex H H' → Q o H') (XPost cm (E σ) W H) → t1 σ H Q)
    (h2 : ∀ W H σ r, WOk cm W H → FRep cm W H σ r → ∀ Q : Option Int → Hp → Prop, Post (f2 r) (fun o => ∀ H', Ex H H' → Q o H') (XPost cm (E σ) W H) → t2 σ H Q) : ECon cm E b (tSl (rSlA X.K) ta t1 t2) (cSl g fa f1 f2) := fun W H σ env w fr Q hp =>
  ha W H σ env w fr _ (hp.bind.mono (fun d q v H1 fp e1 r1 q1 => h1 W H1 σ env (w.ex e1) (fr.ex e1) _ (q.bind.mono (fun lo q2 H2 e2 => h2 W H2 σ env ((w.ex e1).ex e2) ((fr.ex e1).ex e2) _ (q2.bind.mono (fun hi q3 H3 e3 => by
    cases (show fp = [] from q1)
    exact ho W H3 v d lo hi (((w.ex e1).ex e2).ex e3) ((r1.ex e2).ex e3).ofP Q (Post.noX (q3.mono (fun d q4 z H4 fp4 e4 r4 f4 => q4 z H4 fp4 (((e1.trans e2).trans e3).trans e4) r4 (f4.ex ((e1.trans e2).trans e3))) fun _ _ z => z) (hn d lo hi))) fun x rr z => XPost.ex (e1.trans e2) z)) fun x rr z => XPost.ex e1 z)) fun _ _ z => z)
theorem de_sl {lo hi : Option Expr} {f1 f2 : Env → Out (Option Int)} {p2 : Pos} (ha : DE X cm E false a fa) (h1 : DO X cm E lo f1) (h2 : DO X cm E hi f2) : DE X cm E true (.Subscript a (.Slice lo hi none p2) pos) (cSl gSl fa f1 f2) := by
  obtain ⟨ta, a1, a2⟩ := ha.ex
  obtain ⟨t1, b1, b2⟩ := h1.ex
  obtain ⟨t2, c1, c2⟩ := h2.ex
  refine ⟨_, pe_slice sl_all a1 b1 c1, conSl (fun d i j x r h => ?_) (fun W H v d lo hi w rp Q hp => ?_) a2 b2 c2⟩
  · unfold gSl at h
    split at h
    · split at h <;> cases h
    · cases h
    · split at h <;> cases h
    · cases h
  · unfold gSl at hp
    split at hp
    · split at hp
      · cases rp
        rename_i hz
        exact .inl ⟨_, rfl, by rw [strLen]; exact line6 hz, by rw [strCut]; exact hp _ H [] (Ex.refl H) (.str _) FpN.nil⟩
      · exact hp.elim
    · generalize hf : ([] : List Addr) = fp at rp
      cases rp with
      | lstO => cases hf
      | lstF h n r => exact .inr (.inl ⟨_, _, rfl, SqL.of h, fun p hp' => hp (.ref p) _ [p] (Ex.new hp') (.lstO (fp := []) upd_same ((r.cut lo hi).newW hp')) (fpN_new hp')⟩)
    · split at hp
      · exact hp.elim
      · rename_i hw
        generalize hf : ([] : List Addr) = fp at rp
        cases rp with
        | tup h n r =>
          subst hf
          refine .inr (.inr ⟨_, _, rfl, SqT.of h, by rw [r.len]; exact hw, fun p hp' => hp (.ref p) _ [] (Ex.new hp') (.tup upd_same (fun z => z.elim (w.fresh hp') fun m => nomatch m) ((r.cut lo hi).ex (Ex.new hp')).toP) FpN.nil⟩)
    · exact hp.elim
end
end DL

namespace DL
variable [Tbs]
open PySem L2

def teOf (cm : Cm) (E : XS) (b : Bool) (f : F) : TE := fun σ H Q => ∃ W r, WOk cm W H ∧ FRep cm W H σ r ∧ Post (f r) (QP cm W b H Q) (XPost cm (E σ) W H)
def ttOf (cm : Cm) (E : XS) (f : Env → Out Bool) : TT := fun σ H Q => ∃ W r, WOk cm W H ∧ FRep cm W H σ r ∧ Post (f r) (QT H Q) (XPost cm (E σ) W H)
theorem DE.pe {X : Cx} {cm : Cm} {E : XS} {b : Bool} {e : Expr} {f : F} (h : DE X cm E b e f) : PE X e (teOf cm E b f) := by
  obtain ⟨te, h1, h2⟩ := h.ex
  exact ⟨fun pins s σ H Q I ⟨W, r, w, fr, hp⟩ => h1.run pins s σ H Q I (h2 W H σ r w fr Q hp)⟩
theorem DT.pt {X : Cx} {cm : Cm} {E : XS} {e : Expr} {f : Env → Out Bool} (h : DT X cm E e f) : PT X e (ttOf cm E f) := by
  obtain ⟨te, h1, h2⟩ := h.ex
  exact ⟨fun pins s σ H Q I ⟨W, r, w, fr, hp⟩ => h1.run pins s σ H Q I (h2 W H σ r w fr Q hp)⟩

def Later (cm : Cm) (W : Addr → Prop) (H1 : Hp) (W' : Addr → Prop) (H2 : Hp) : Prop := (∀ a, W' a → W a ∨ H1 a = none) ∧ (∀ a o, H1 a = some o → ¬ W a → (t : isTb o = false := by rfl) → H2 a = some o) ∧ WOk cm W' H2
def IsIt (cm : Cm) (J : It) (items : List D) (W : Addr → Prop) (H1 : Hp) : Prop := ∀ W' H2 i, Later cm W H1 W' H2 → (∀ d, items[i]? = some d → J.go i H2 ∧ ∀ x H3, J.yld i H2 x H3 → Ex H2 H3 ∧ Rep cm W' H3 x d []) ∧ (items[i]? = none → J.stop i H2)
theorem Later.refl {cm : Cm} {W : Addr → Prop} {H : Hp} (w : WOk cm W H) : Later cm W H W H := ⟨fun _ h => .inl h, fun _ _ h _ _ => h, w⟩
structure DI (X : Cx) (cm : Cm) (E : XS) (tg iter : Expr) (f : Env → Out (List D)) : Prop where
  ex : ∃ wi, PI X tg iter wi ∧ ∀ W H σ r, WOk cm W H → FRep cm W H σ r → ∀ R, Post (f r) (fun items => ∀ J H1, Ex H H1 → IsIt cm J items W H1 → R J H1) (XPost cm (E σ) W H) → wi σ H R
theorem Rep.later {cm : Cm} {W W' : Addr → Prop} {H1 H2 : Hp} {v : V} {d : D} (h : Rep cm W H1 v d []) (l : Later cm W H1 W' H2) : Rep cm W' H2 v d [] := h.move l.1 fun a o q t w => by
  rcases w with w | w
  · exact l.2.1 a o q w t
  · cases w

section
variable {X : Cx} {cm : Cm} {E : XS} {b : Bool} {pos : Pos} {a c tg : Expr} {fa fb : F}
def iL (f : F) : Env → Out (List D) := fun r => (f r).bind fun d => match d with
  | .lst _ xs => .ok xs
  | _ => .bad
theorem di_list (ha : DE X cm E false a fa) : DI X cm E tg a (iL fa) := by
  obtain ⟨ta, h1, h2⟩ := ha.ex
  refine ⟨_, pi_list h1, fun W H σ r w fr R hp => h2 W H σ r w fr _ (hp.bind.mono (fun d q v H1 fp e1 r1 f1 => ?_) fun _ _ z => z)⟩
  split at q
  · cases (show fp = [] from f1)
    generalize hf : ([] : List Addr) = fp at r1
    cases r1 with
    | lstO => cases hf
    | lstF h n rs =>
      have n := fun z => n (.inl z)
      refine ⟨_, rfl, ⟨_, SqL.of h⟩, q _ H1 e1 fun W' H2 i l => ?_⟩
      have h2' := l.2.1 _ _ h n
      refine ⟨fun d hd => ?_, fun hd => ⟨_, SqL.of h2', by rw [rs.len]; exact List.getElem?_eq_none_iff.mp hd⟩⟩
      obtain ⟨u, hu, ru⟩ := rs.at rfl hd
      refine ⟨⟨_, _, SqL.of h2', hu⟩, fun x H3 y => ?_⟩
      obtain ⟨rfl, y⟩ := y
      have := y _ (SqL.of h2')
      rw [hu] at this
      cases this
      exact ⟨Ex.refl _, ru.ofP.later l⟩
  · exact q.elim
def iT (f : F) : Env → Out (List D) := fun r => (f r).bind fun d => match d with
  | .tup xs => .ok xs
  | _ => .bad
theorem di_tup (ha : DE X cm E false a fa) : DI X cm E tg a (iT fa) := by
  obtain ⟨ta, h1, h2⟩ := ha.ex
  refine ⟨_, pi_tup h1, fun W H σ r w fr R hp => h2 W H σ r w fr _ (hp.bind.mono (fun d q v H1 fp e1 r1 f1 => ?_) fun _ _ z => z)⟩
  split at q
  · cases (show fp = [] from f1)
    generalize hf : ([] : List Addr) = fp at r1
    cases r1 with
    | tup h n rs =>
      subst hf
      have n := fun z => n (.inl z)
      refine ⟨_, rfl, ⟨_, SqT.of h⟩, q _ H1 e1 fun W' H2 i l => ?_⟩
      have h2' := l.2.1 _ _ h n
      refine ⟨fun d hd => ?_, fun hd => ⟨_, SqT.of h2', by rw [rs.len]; exact List.getElem?_eq_none_iff.mp hd⟩⟩
      obtain ⟨u, hu, ru⟩ := rs.at rfl hd
      refine ⟨⟨_, _, SqT.of h2', hu⟩, fun x H3 y => ?_⟩
      obtain ⟨rfl, y⟩ := y
      have := y _ (SqT.of h2')
      rw [hu] at this
      cases this
      exact ⟨Ex.refl _, ru.ofP.later l⟩
  · exact q.elim
def iS (f : F) : Env → Out (List D) := fun r => (f r).bind fun d => match d with
  | .str cs => .ok (cs.map fun c => .str [c])
  | _ => .bad
theorem di_str (ha : DE X cm E false a fa) : DI X cm E tg a (iS fa) := by
  obtain ⟨ta, h1, h2⟩ := ha.ex
  refine ⟨_, pi_str h1, fun W H σ r w fr R hp => h2 W H σ r w fr _ (hp.bind.mono (fun d q v H1 fp e1 r1 f1 => ?_) fun _ _ z => z)⟩
  split at q
  · cases r1
    rename_i cs
    refine ⟨_, rfl, q _ H1 e1 fun W' H2 i l => ⟨fun d hd => ?_, fun hd => ?_⟩⟩
    · rw [List.getElem?_map] at hd
      obtain ⟨c, hc, rfl⟩ := Option.map_eq_some_iff.mp hd
      have hi : i < cs.length := (List.getElem?_eq_some_iff.mp hc).1
      refine ⟨by show i < cs.toArray.size; simpa using hi, fun x H3 y => ?_⟩
      obtain ⟨rfl, c', hc', rfl⟩ := y
      have : cs[i]? = some c' := by simpa using hc'
      rw [hc] at this
      cases this
      exact ⟨Ex.refl _, .str [c]⟩
    · rw [List.getElem?_map, Option.map_eq_none_iff] at hd
      show cs.toArray.size ≤ i
      simpa using List.getElem?_eq_none_iff.mp hd
  · exact q.elim
def rng (lo : Int) (n : Nat) : List D := (List.range n).map fun i => .int (lo + (i : Nat))
theorem isIt_rng {lo : Int} {n : Nat} {W : Addr → Prop} {H1 : Hp} : IsIt cm (Itr lo n) (rng lo n) W H1 := fun W' H2 i l => by
  refine ⟨fun d hd => ?_, fun hd => ?_⟩
  · unfold rng at hd
    rw [List.getElem?_map] at hd
    obtain ⟨k, hk, rfl⟩ := Option.map_eq_some_iff.mp hd
    have hi : i < n := by
      have := (List.getElem?_eq_some_iff.mp hk).1
      simpa using this
    have hk' : k = i := by
      rw [List.getElem?_range hi] at hk
      exact (Option.some.inj hk).symm
    subst hk'
    refine ⟨hi, fun x H3 y => ?_⟩
    obtain ⟨rfl, rfl⟩ := y
    exact ⟨Ex.refl _, .int _⟩
  · unfold rng at hd
    rw [List.getElem?_map, Option.map_eq_none_iff] at hd
    have := List.getElem?_eq_none_iff.mp hd
    show n ≤ i
    simpa using this
def iR1 (fs : Env → Out (List D)) : Env → Out (List D) := fun r => (fs r).bind fun ds => match ds with
  | [.int j] => if -1000000 ≤ j ∧ j ≤ 1000000 then .ok (rng 0 j.toNat) else .bad
  | _ => .bad
def iR2 (fs : Env → Out (List D)) : Env → Out (List D) := fun r => (fs r).bind fun ds => match ds with
  | [.int i, .int j] => if (-1000000 ≤ i ∧ i ≤ 1000000) ∧ -1000000 ≤ j ∧ j ≤ 1000000 then .ok (rng i (j - i).toNat) else .bad
  | _ => .bad
theorem di_range1 {p : Pos} {fs : Env → Out (List D)} (hg : Gl X "range") (hm : X.mg "range" = none) (ha : DA X cm E false [a] fs) (hs : starEach [a] X.env = [(false, eval a X.env)] := by rfl) : DI X cm E tg (.Call (.Name "range" p) [a] [] pos) (iR1 fs) := by
  obtain ⟨ta, h1, h2⟩ := ha.ex
  refine ⟨_, pi_range1 hg hm h1 hs, fun W H σ r w fr R hp => h2 W H σ r w fr _ (hp.bind.mono (fun ds q vs H1 fp e1 r1 f1 => ?_) fun _ _ z => z)⟩
  split at q
  · split at q
    · rename_i hz
      cases r1 with
      | cons k1 k2 =>
        cases k1; cases k2
        exact ⟨_, rfl, by omega, by omega, q _ H1 e1 isIt_rng⟩
    · exact q.elim
  · exact q.elim
structure DG (X : Cx) (cm : Cm) (tg : Expr) (ts : List Nat) (g : D → Env → Out Env) : Prop where
  ex : ∃ t, PG X tg t ∧ ∀ W H σ r v d, FRep cm W H σ r → Rep cm W H v d [] → ∀ Q : St → Hp → Prop, Post (g d r) (fun r' => ∀ σ', FRep cm W H σ' r' → wipe σ' ts = wipe σ ts → Q σ' H) noX → t v σ H Q
structure DGs (X : Cx) (cm : Cm) (tgs : List Expr) (ts : List Nat) (g : List D → Env → Out Env) : Prop where
  ex : ∃ t, PGs X tgs t ∧ ∀ W H σ r vs ds, FRep cm W H σ r → Reps cm W H vs ds [] → ∀ Q : St → Hp → Prop, Post (g ds r) (fun r' => ∀ σ', FRep cm W H σ' r' → wipe σ' ts = wipe σ ts → Q σ' H) noX → t vs σ H Q
def sN (i : Nat) : D → Env → Out Env := fun d r => if i < r.length then .ok (r.set i (some d)) else .bad
def sNil : List D → Env → Out Env := fun ds r => match ds with
  | [] => .ok r
  | _ => .bad
def sCons (g : D → Env → Out Env) (h : List D → Env → Out Env) : List D → Env → Out Env := fun ds r => match ds with
  | d :: ds => (g d r).bind fun r1 => h ds r1
  | [] => .bad
def sT (n : Nat) (g : List D → Env → Out Env) : D → Env → Out Env := fun d r => match d with
  | .tup ds => if ds.length = n then g ds r else .bad
  | _ => .bad
theorem FRep.set {W : Addr → Prop} {H : Hp} {σ : St} {r : Env} {v : V} {d : D} (fr : FRep cm W H σ r) (rp : Rep cm W H v d []) (i : Nat) : FRep cm W H (σ.set i (some v)) (r.set i (some d)) := by
  refine ⟨by rw [List.length_set, List.length_set, fr.1], fun j d' h => ?_⟩
  rw [List.getElem?_set] at h ⊢
  by_cases e : i = j
  · subst e
    rw [if_pos rfl] at h ⊢
    split at h
    · rename_i hl
      cases h
      rw [if_pos (by rw [fr.1]; exact hl)]
      exact ⟨v, rfl, rp⟩
    · cases h
  · rw [if_neg e] at h ⊢
    exact fr.2 j d' h
theorem wipe_set {σ : St} {i : Nat} {x : Option V} : ∀ {ts : List Nat}, i ∈ ts → wipe (σ.set i x) ts = wipe σ ts
  | [], h => nomatch h
  | t :: ts, h => by
    show (wipe (σ.set i x) ts).set t none = (wipe σ ts).set t none
    by_cases e : i ∈ ts
    · rw [wipe_set e]
    · have : i = t := (List.mem_cons.mp h).resolve_right e
      subst this
      clear h
      have gen : ∀ ts : List Nat, i ∉ ts → wipe (σ.set i x) ts = (wipe σ ts).set i x := by
        intro ts
        induction ts with
        | nil => intro _; rfl
        | cons u us ih =>
          intro hu
          have h1 : i ≠ u := fun z => hu (by simp [z])
          have h2 : i ∉ us := fun z => hu (by simp [z])
          show (wipe (σ.set i x) us).set u none = ((wipe σ us).set u none).set i x
          rw [ih h2, List.set_comm _ _ h1]
      rw [gen ts e, List.set_set]
theorem wipe_sub {σ σ' : St} {us : List Nat} : ∀ {ts : List Nat}, wipe σ' us = wipe σ us → (∀ i ∈ us, i ∈ ts) → wipe σ' ts = wipe σ ts := by
  have gen : ∀ (ts : List Nat) (τ : St) (j : Nat), (wipe τ ts)[j]? = if j ∈ ts ∧ j < τ.length then some none else τ[j]? := by
    intro ts τ j
    induction ts with
    | nil => simp [wipe]
    | cons t ts ih =>
      show ((wipe τ ts).set t none)[j]? = _
      rw [List.getElem?_set, wipe_length]
      by_cases e : t = j
      · subst e
        simp
        split
        · rfl
        · rename_i h
          rw [List.getElem?_eq_none (by omega)]
      · rw [if_neg e, ih]
        have : j ≠ t := fun z => e z.symm
        simp [this]
  intro ts h hs
  have hl : σ'.length = σ.length := by
    have := congrArg List.length h
    rwa [wipe_length, wipe_length] at this
  apply List.ext_getElem?
  intro j
  rw [gen, gen, hl]
  by_cases hj : j ∈ ts ∧ j < σ.length
  · rw [if_pos hj, if_pos hj]
  · rw [if_neg hj, if_neg hj]
    have h2 := congrArg (fun l : St => l[j]?) h
    simp only [gen, hl] at h2
    by_cases hu : j ∈ us ∧ j < σ.length
    · exact absurd ⟨hs j hu.1, hu.2⟩ hj
    · rw [if_neg hu, if_neg hu] at h2
      exact h2
theorem dg_name (i : Nat) {x : Str} (hN : X.N.Nodup) (hi : X.N[i]? = some x := by rfl) (hx : Loc X.env.scope x := by first | exact Or.inl rfl | exact Or.inr rfl) (hf : X.fn x = true ∨ X.env.scope.names.lookup x = some .local := by first | exact .inl rfl | exact .inr rfl | assumption) : DG X cm (.Name x pos) [i] (sN i) := by
  refine ⟨_, pg_name hN hi hx hf, fun W H σ r v d fr rp Q hp => ?_⟩
  unfold sN at hp
  split at hp
  · exact hp _ (fr.set rp i) (wipe_set (by simp))
  · exact hp.elim
theorem dgs_nil : DGs X cm [] [] sNil := by
  refine ⟨_, pgs_nil, fun W H σ r vs ds fr rp Q hp => ?_⟩
  unfold sNil at hp
  split at hp
  · cases rp
    exact ⟨rfl, hp σ fr rfl⟩
  · exact hp.elim
theorem dgs_cons {e : Expr} {es : List Expr} {ts us : List Nat} {g : D → Env → Out Env} {h : List D → Env → Out Env} (h1 : DG X cm e ts g) (h2 : DGs X cm es us h)
    (hs : (assignEach (e :: es) X.env).map (·.2) = assign e X.env :: (assignEach es X.env).map (·.2) := by rfl) : DGs X cm (e :: es) (ts ++ us) (sCons g h) := by
  obtain ⟨t, a1, a2⟩ := h1.ex
  obtain ⟨u, b1, b2⟩ := h2.ex
  refine ⟨_, pgs_cons a1 b1 hs, fun W H σ r vs ds fr rp Q hp => ?_⟩
  unfold sCons at hp
  split at hp
  · generalize hf : ([] : List Addr) = fp at rp
    cases rp with
    | cons k1 k2 =>
      obtain ⟨rfl, rfl⟩ := app_nil hf
      refine ⟨_, _, rfl, a2 W H σ r _ _ fr k1 _ (hp.bind.mono (fun r1 q σ1 fr1 w1 => ?_) fun _ _ z => z)⟩
      refine b2 W H σ1 r1 _ _ fr1 k2 _ (q.mono (fun r2 q2 σ2 fr2 w2 => q2 σ2 fr2 ?_) fun _ _ z => z)
      rw [wipe_sub w2 (fun i hi => List.mem_append_right _ hi), wipe_sub w1 (fun i hi => List.mem_append_left _ hi)]
  · exact hp.elim
theorem dg_tup {es : List Expr} {k : Nat} {ts : List Nat} {g : List D → Env → Out Env} {n : Nat} (hc : X.calm = true) (h : DGs X cm es ts g) (hn : (assignEach es X.env).length = n := by rfl) (hst : (assignEach es X.env).findIdx? (·.1) = none := by rfl) : DG X cm (.Tuple es k pos) ts (sT n g) := by
  obtain ⟨t, a1, a2⟩ := h.ex
  refine ⟨_, pg_tup hc a1 hn hst, fun W H σ r v d fr rp Q hp => ?_⟩
  unfold sT at hp
  split at hp
  · split at hp
    · rename_i hl
      generalize hf : ([] : List Addr) = fp at rp
      cases rp with
      | tup h n rs =>
        subst hf
        exact ⟨_, _, rfl, SqT.of h, by rw [rs.len]; exact hl, a2 W H σ r _ _ fr rs Q hp⟩
    · exact hp.elim
  · exact hp.elim
def tgOf (cm : Cm) (ts : List Nat) (g : D → Env → Out Env) : TG := fun v σ H Q => ∃ W r d, FRep cm W H σ r ∧ Rep cm W H v d [] ∧ Post (g d r) (fun r' => ∀ σ', FRep cm W H σ' r' → wipe σ' ts = wipe σ ts → Q σ' H) noX
theorem DG.pg {ts : List Nat} {g : D → Env → Out Env} (h : DG X cm tg ts g) : PG X tg (tgOf cm ts g) := by
  obtain ⟨t, a1, a2⟩ := h.ex
  exact ⟨fun pins s σ H v u Q I r ⟨W, rr, d, fr, rp, hp⟩ => a1.run pins s σ H v u Q I r (a2 W H σ rr v d fr rp Q hp)⟩

structure DTs (X : Cx) (cm : Cm) (E : XS) (es : List Expr) (f : Env → Out Bool) : Prop where
  ex : ∃ te, PTs X es te ∧ TCon cm E te f
def tYes' : Env → Out Bool := fun _ => .ok true
theorem dts_nil : DTs X cm E [] tYes' := ⟨_, pts_nil, fun W H σ r w fr Q hp => hp H (Ex.refl H)⟩
theorem DTs.pts {es : List Expr} {f : Env → Out Bool} (h : DTs X cm E es f) : PTs X es (ttOf cm E f) := by
  obtain ⟨te, h1, h2⟩ := h.ex
  exact ⟨fun pins s σ H Q I ⟨W, r, w, fr, hp⟩ => h1.run pins s σ H Q I (h2 W H σ r w fr Q hp)⟩
def wipeE (r : Env) : List Nat → Env
  | [] => r
  | v :: vs => (wipeE r vs).set v none
def turn (vs : List Nat) (g : D → Env → Out Env) (tt : Env → Out Bool) (el : F) (r : Env) (d : D) : Out (Option D) :=
  (g d (wipeE r vs)).bind fun r2 => (tt r2).bind fun b => if b = true then (el r2).bind fun y => .ok (some y) else .ok none
def turns (h : D → Out (Option D)) : List D → Out (List D)
  | [] => .ok []
  | d :: ds => (h d).bind fun o => (turns h ds).bind fun ys => .ok (match o with | some y => y :: ys | none => ys)
def safe {α : Type} : Out α → Out α
  | .ok a => .ok a
  | _ => .bad
theorem Post.safe {α : Type} {o : Out α} {q : α → Prop} {e : Xc → Env → Prop} (h : Post (DL.safe o) q e) : Post o q DL.noX := by
  cases o <;> exact h
def cLc (it : Env → Out (List D)) (vs : List Nat) (g : D → Env → Out Env) (tt : Env → Out Bool) (el : F) : F := fun r => (it r).bind fun ds => if ds.length ≤ 1000000 then (safe (turns (turn vs g tt el r) ds)).bind fun ys => .ok (.lst true ys) else .bad
theorem FRep.wipe {W : Addr → Prop} {H : Hp} {σ : St} {r : Env} (fr : FRep cm W H σ r) : ∀ vs : List Nat, FRep cm W H (L2.wipe σ vs) (wipeE r vs)
  | [] => fr
  | v :: vs => by
    have ih := FRep.wipe fr vs
    refine ⟨by show ((L2.wipe σ vs).set v none).length = ((wipeE r vs).set v none).length; rw [List.length_set, List.length_set, ih.1], fun j d h => ?_⟩
    have h : ((wipeE r vs).set v none)[j]? = some (some d) := h
    show ∃ u, ((L2.wipe σ vs).set v none)[j]? = some (some u) ∧ _
    rw [List.getElem?_set] at h ⊢
    by_cases e : v = j
    · rw [if_pos e] at h
      split at h <;> cases h
    · rw [if_neg e] at h ⊢
      exact ih.2 j d h
theorem wipe_wipe (σ : St) (vs : List Nat) : wipe (wipe σ vs) vs = wipe σ vs := by
  have gen : ∀ (us : List Nat) (τ : St), (∀ i ∈ us, i ∈ vs) → wipe (wipe τ us) vs = wipe τ vs := by
    intro us
    induction us with
    | nil => intro τ _; rfl
    | cons u us ih =>
      intro τ h
      show wipe ((wipe τ us).set u none) vs = wipe τ vs
      rw [wipe_set (h u (by simp)), ih τ fun i hi => h i (by simp [hi])]
  exact gen vs σ fun _ h => h
abbrev E0' : XS := fun _ _ _ _ => False
theorem lc_con {ts : List Nat} {it : Env → Out (List D)} {g : D → Env → Out Env} {tt : Env → Out Bool} {el : F} {wi : TI} (i2 : ∀ W H σ r, WOk cm W H → FRep cm W H σ r → ∀ R, Post (it r) (fun items => ∀ J H1, Ex H H1 → IsIt cm J items W H1 → R J H1) (XPost cm (E σ) W H) → wi σ H R) :
    ECon cm E true (tLc wi (tgOf cm ts g) (ttOf cm E0' tt) (teOf cm E0' true el) ts) (cLc it ts g tt el) := by
  intro W H σ r w fr Q hp
  refine i2 W H σ r w fr _ (hp.bind.mono (fun ds q J H1 e1 isit => ?_) fun _ _ z => z)
  split at q
  case isFalse => exact q.elim
  rename_i hlen
  intro Dl hD
  have q := (Post.bind q).safe
  let W2 : List Addr → Addr → Prop := fun fp a => W a ∨ a = Dl ∨ a ∈ fp
  have hW2 : ∀ fp, FpN true H1 fp → ∀ a, W2 fp a → W a ∨ H1 a = none := fun fp hf a z => by
    rcases z with z | z | z
    · exact .inl z
    · exact .inr (by rw [z]; exact hD)
    · exact .inr (hf.2 a z)
  have ag : ∀ H2 fp, Ex H1 H2 → (∃ vs, H2 Dl = some (.lst vs)) → FpN true H1 fp → (∀ a ∈ fp, MutAt H2 a) → Later cm W H1 (W2 fp) H2 := fun H2 fp e2 hv hf hm => ⟨hW2 fp hf, fun a o z _ t => e2.get a o z t, fun a z => by
    rcases z with z | z | z
    · exact ((w.ex e1).ex e2).1 a z
    · obtain ⟨vs, hv⟩ := hv
      rw [z]
      exact ⟨_, hv, rfl⟩
    · exact hm a z, ((w.ex e1).ex e2).2⟩
  have frW : ∀ H2 fp, Ex H1 H2 → FpN true H1 fp → FRep cm (W2 fp) H2 (wipe σ ts) (wipeE r ts) := fun H2 fp e2 hf => by
    have f1 := (fr.wipe ts).ex e1
    refine ⟨f1.1, fun i d h => ?_⟩
    obtain ⟨v, k1, k2⟩ := f1.2 i d h
    exact ⟨v, k1, k2.move (hW2 fp hf) fun a o z t _ => e2.get a o z t⟩
  refine ⟨fun i m H' => m = ds.length - i ∧ i ≤ ds.length ∧ Ex H1 H' ∧ ∃ ys vs fp, ys.length ≤ i ∧ H' Dl = some (.lst vs) ∧ Reps cm (W2 fp) H' vs ys fp ∧ FpN true H1 fp ∧ Dl ∉ fp ∧
      Post (turns (turn ts g tt el r) (ds.drop i)) (fun zs => QP cm W true H Q (.lst true (ys ++ zs))) noX, ⟨ds.length, by simp, Nat.zero_le _, Ex.new hD, [], [], [], Nat.le_refl _, upd_same, .nil, FpN.nil, by simp, q⟩, ?_⟩
  rintro i m H' ⟨rfl, hi, e2, ys, vs, fp, hy, hDl, hr, hf, hDf, hq⟩
  have hl := ag H' fp e2 ⟨_, hDl⟩ hf fun a m => hr.own a m
  by_cases hlt : i < ds.length
  · right
    obtain ⟨d, hd⟩ : ∃ d, ds[i]? = some d := ⟨ds[i], by simp [hlt]⟩
    obtain ⟨go, yl⟩ := (isit (W2 fp) H' i hl).1 d hd
    refine ⟨go, fun H5 => Ex H1 H5 ∧ ∃ ys vs fp, ys.length ≤ i + 1 ∧ H5 Dl = some (.lst vs) ∧ Reps cm (W2 fp) H5 vs ys fp ∧ FpN true H1 fp ∧ Dl ∉ fp ∧
      Post (turns (turn ts g tt el r) (ds.drop (i + 1))) (fun zs => QP cm W true H Q (.lst true (ys ++ zs))) noX, fun H5 h5 => ⟨ds.length - (i + 1), by omega, rfl, hlt, h5⟩, fun x H3 y => ?_⟩
    obtain ⟨e3, r3⟩ := yl x H3 y
    have w3 : WOk cm (W2 fp) H3 := (hl.2.2).ex e3
    have eH : Ex H1 H3 := e2.trans e3
    have hdrop : ds.drop i = d :: ds.drop (i + 1) := by
      rw [List.drop_eq_getElem_cons hlt]
      congr 1
      have := List.getElem?_eq_getElem hlt
      rw [this] at hd
      exact Option.some.inj hd
    rw [hdrop] at hq
    have hq := Post.bind hq
    refine ⟨W2 fp, wipeE r ts, d, frW H3 fp (e2.trans e3) hf, r3, (Post.bind hq).mono (fun r2 q2 σ2 fr2 w2 => ⟨by rw [w2, wipe_wipe], ?_⟩) fun _ _ z => z⟩
    refine ⟨W2 fp, r2, w3, fr2, (Post.bind q2).mono (fun bb q3 H4 e4 => ?_) fun _ _ z => z.elim⟩
    cases bb with
    | false =>
      refine ⟨(e2.trans e3).trans e4, ys, vs, fp, by omega, e4 _ _ (e3 _ _ hDl), (hr.ex e3).ex e4, hf, hDf, ?_⟩
      exact (Post.bind q3).mono (fun zs z => z) fun _ _ z => z
    | true =>
      refine ⟨W2 fp, r2, w3.ex e4, fr2.ex e4, (Post.bind (o := el r2) q3).mono (fun y q4 v5 H5 fp5 e5 r5 f5 => ?_) fun _ _ z => z.elim⟩
      have hD5 : H5 Dl = some (.lst vs) := e5 _ _ (e4 _ _ (e3 _ _ hDl))
      have hvl := hr.len
      refine ⟨vs, hD5, Nat.lt_of_lt_of_le (show vs.length < 1000000 by omega) (by decide), ?_⟩
      have hnD : ∀ a ∈ fp5, a ≠ Dl := fun a m z => by
        subst z
        have := f5.2 _ m
        rw [e4 _ _ (e3 _ _ hDl)] at this
        cases this
      have nDn : ∀ a ∈ fp ++ fp5, a ≠ Dl := fun a m z => by
        rcases List.mem_append.mp m with m | m
        · subst z; exact hDf m
        · exact hnD a m z
      refine ⟨Ex.updM (((e2.trans e3).trans e4).trans e5) hD ⟨_, ((e3.trans e4).trans e5) _ _ hDl, rfl⟩, ys ++ [y], vs ++ [v5], fp ++ fp5, by simp; omega, upd_same, ?_, ?_, ?_, ?_⟩
      · have keep : ∀ a o, H5 a = some o → isTb o = false → (¬ W2 (fp ++ fp5) a ∨ a ∈ fp ++ fp5) → upd H5 Dl (.lst (vs ++ [v5])) a = some o := fun a o z _ c => by
          rw [upd_ne]
          · exact z
          · rcases c with c | c
            · exact fun q => c (.inr (.inl q))
            · exact nDn a c
        have up : ∀ a, W2 (fp ++ fp5) a → W2 fp a ∨ a ∈ fp5 := fun a z => by
          rcases z with z | z | z
          · exact .inl (.inl z)
          · exact .inl (.inr (.inl z))
          · rcases List.mem_append.mp z with z | z
            · exact .inl (.inr (.inr z))
            · exact .inr z
        have h1 : Reps cm (W2 (fp ++ fp5)) H5 vs ys fp := ((hr.ex e3).ex e4).move (fun a z => (up a z).imp id (f5.2 a)) fun a o z t _ => e5.get a o z t
        have h2 : Rep cm (W2 (fp ++ fp5)) H5 v5 y fp5 := r5.move (fun a z => .inl (up a z)) fun _ _ z _ _ => z
        have all : Reps cm (W2 (fp ++ fp5)) H5 (vs ++ [v5]) (ys ++ [y]) (fp ++ (fp5 ++ [])) := Reps.app h1 (.cons h2 .nil)
        rw [List.append_nil] at all
        exact all.move (fun a z => .inl z) keep
      · exact fpN_app hf (fun a m => (((hr.ex e3).ex e4).own a m).there) (eH.trans e4) f5
      · exact fun m => nDn _ m rfl
      · refine (Post.bind q4).mono (fun zs z => ?_) fun _ _ z => z
        rw [List.append_assoc]
        exact z
  · left
    have e : i = ds.length := by omega
    subst e
    refine ⟨(isit (W2 fp) H' _ hl).2 (by simp), ?_⟩
    rw [List.drop_length] at hq
    have hq : QP cm W true H Q (.lst true (ys ++ [])) := hq
    rw [List.append_nil] at hq
    refine hq (.ref Dl) H' (Dl :: fp) (e1.trans e2) (.lstO hDl (hr.move (fun a z => .inl ?_) fun a o z _ _ => z)) ⟨List.nodup_cons.mpr ⟨hDf, hf.1⟩, fun a m => ?_⟩
    · rcases z with z | z
      · exact .inl z
      · exact .inr (List.mem_cons.mp z)
    · rcases List.mem_cons.mp m with rfl | m
      · exact e1.back hD
      · exact e1.back (hf.2 a m)
theorem de_lc {elt iter : Expr} {ifs : List Expr} {scope : Scope} {own : List (Str × Nat)} {ts : List Nat} {it : Env → Out (List D)} {g : D → Env → Out Env} {tt : Env → Out Bool} {el : F} (hc : X.calm = true) (hN : X.N.Nodup) (hi : DI X cm E tg iter it) (ok : BlkOk X.N X.env.scope scope own) (hts : own.map (·.2) = ts)
    (hg : ∀ (s : Shared) (H : Hp) (C : Addr) (cl : List (Str × Addr)) (fp : List Addr), DG (X.blk s H scope (compEnvC scope cl C X.env) fp) cm tg ts g) (ht : ∀ (s : Shared) (H : Hp) (C : Addr) (cl : List (Str × Addr)) (fp : List Addr), DTs (X.blk s H scope (compEnvC scope cl C X.env) fp) cm E0' ifs tt)
    (he : ∀ (s : Shared) (H : Hp) (C : Addr) (cl : List (Str × Addr)) (fp : List Addr), DE (X.blk s H scope (compEnvC scope cl C X.env) fp) cm E0' true elt el) (hs : ∀ x, foldedSetIterable iter X.env x = pure x := by intro _; rfl) :
    DE X cm E true (.ListComp elt [⟨tg, iter, ifs, 0⟩] scope pos) (cLc it ts g tt el) := by
  obtain ⟨wi, i1, i2⟩ := hi.ex
  refine ⟨_, pe_lc hc hN i1 ok (fun s H C cl fp => (hg s H C cl fp).pg) (fun s H C cl fp => (ht s H C cl fp).pts) (fun s H C cl fp => (he s H C cl fp).pe) hs, ?_⟩
  rw [hts]
  exact lc_con i2
end
end DL

namespace DL
variable [Tbs]
open PySem L2

abbrev Fps := Nat → List Addr
abbrev Wof (W0 : Addr → Prop) (fps : Fps) : Addr → Prop := fun a => W0 a ∨ ∃ j, a ∈ fps j
structure Good (cm : Cm) (W0 : Addr → Prop) (H : Hp) (σ : St) (r : Env) (fps : Fps) : Prop where
  len : σ.length = r.length
  w0 : WOk cm W0 H
  sl : ∀ (i : Nat) d, r[i]? = some (some d) → ∃ v, σ[i]? = some (some v) ∧ Rep cm (Wof W0 fps) H v d (fps i)
  nd : ∀ i, (fps i).Nodup
  dj : ∀ i j a, a ∈ fps i → a ∈ fps j → i = j
  nw : ∀ i a, a ∈ fps i → ¬ W0 a
  mu : ∀ i a, a ∈ fps i → MutAt H a
structure Fram (H : Hp) (fps : Fps) (H' : Hp) (fps' : Fps) (fpv : List Addr) : Prop where
  keep : ∀ a o, H a = some o → (∀ i, a ∉ fps i) → (t : isTb o = false := by rfl) → H' a = some o
  old : ∀ i a, a ∈ fps' i → (∃ j, a ∈ fps j) ∨ H a = none
  oldv : ∀ a ∈ fpv, (∃ j, a ∈ fps j) ∨ H a = none
  back : ∀ a, H' a = none → H a = none
  tb : LamX.Tabs Tbs.T H → LamX.Tabs Tbs.T H'
theorem Fram.refl (H : Hp) (fps : Fps) : Fram H fps H fps [] := ⟨fun _ _ h _ _ => h, fun i a h => .inl ⟨i, h⟩, fun _ h => (nomatch h), fun _ h => h, fun h => h⟩
theorem Fram.of_ex {H H' : Hp} {fps : Fps} {fpv : List Addr} (e : Ex H H') (hf : ∀ a ∈ fpv, H a = none) : Fram H fps H' fps fpv := ⟨fun a o h _ t => e.get a o h t, fun i a h => .inl ⟨i, h⟩, fun a m => .inr (hf a m), fun _ h => e.back h, e.tb⟩
theorem Fram.trans {H H1 H2 : Hp} {fps f1 f2 : Fps} {v1 v2 : List Addr} (a : Fram H fps H1 f1 v1) (b : Fram H1 f1 H2 f2 v2) : Fram H fps H2 f2 v2 where
  keep := fun c o h n t => b.keep c o (a.keep c o h n t) (fun i m => by
    rcases a.old i c m with ⟨j, q⟩ | q
    · exact n j q
    · rw [h] at q; cases q) t
  tb := fun h => b.tb (a.tb h)
  old := fun i c m => by
    rcases b.old i c m with ⟨j, q⟩ | q
    · exact a.old j c q
    · exact .inr (a.back c q)
  oldv := fun c m => by
    rcases b.oldv c m with ⟨j, q⟩ | q
    · exact a.old j c q
    · exact .inr (a.back c q)
  back := fun c h => a.back c (b.back c h)
theorem Fram.addv {H H1 : Hp} {fps f1 : Fps} {v1 v2 : List Addr} (a : Fram H fps H1 f1 v1) (h : ∀ c ∈ v2, (∃ j, c ∈ fps j) ∨ H c = none) : Fram H fps H1 f1 v2 := ⟨@Fram.keep _ _ _ _ _ _ a, a.old, h, a.back, a.tb⟩

abbrev FX := Env → Out (D × Env)
abbrev QX (cm : Cm) (W0 : Addr → Prop) (H : Hp) (σ : St) (fps : Fps) (Q : VK) : D × Env → Prop := fun p => ∀ v H' fps' fpv, Good cm (Wp W0 fpv) H' σ p.2 fps' → Rep cm (Wof (Wp W0 fpv) fps') H' v p.1 fpv → fpv.Nodup → (∀ a ∈ fpv, ¬ W0 a) → Fram H fps H' fps' fpv → Q v H'
abbrev QXT (cm : Cm) (W0 : Addr → Prop) (H : Hp) (σ : St) (fps : Fps) (Q : Bool → Hp → Prop) : Bool × Env → Prop := fun p => ∀ H' fps', Good cm W0 H' σ p.2 fps' → Fram H fps H' fps' [] → Q p.1 H'
abbrev QXA (cm : Cm) (W0 : Addr → Prop) (H : Hp) (σ : St) (fps : Fps) (Q : List V → Hp → Prop) : List D × Env → Prop := fun p => ∀ vs H' fps' fpv, Good cm (Wp W0 fpv) H' σ p.2 fps' → Reps cm (Wof (Wp W0 fpv) fps') H' vs p.1 fpv → fpv.Nodup → (∀ a ∈ fpv, ¬ W0 a) → Fram H fps H' fps' fpv → Q vs H'
def XX (cm : Cm) (E : XS) (W0 : Addr → Prop) (H : Hp) (σ : St) (fps : Fps) : Xc → Env → Prop := fun x r' => ∀ H' fps' dx, Good cm W0 H' σ r' fps' → Fram H fps H' fps' [] → XRep cm (Wof W0 fps') H' x dx → E σ (.ref (cm.cl x.cls)) dx H'
structure XE (X : Cx) (cm : Cm) (E : XS) (e : Expr) (f : FX) : Prop where
  ex : ∃ te, PE X e te ∧ ∀ W0 H σ r fps, Good cm W0 H σ r fps → ∀ Q, Post (f r) (QX cm W0 H σ fps Q) (XX cm E W0 H σ fps) → te σ H Q
structure XT (X : Cx) (cm : Cm) (E : XS) (e : Expr) (f : Env → Out (Bool × Env)) : Prop where
  ex : ∃ te, PT X e te ∧ ∀ W0 H σ r fps, Good cm W0 H σ r fps → ∀ Q, Post (f r) (QXT cm W0 H σ fps Q) (XX cm E W0 H σ fps) → te σ H Q
structure XW (X : Cx) (cm : Cm) (E : XS) (e : Expr) (f : Env → Out (Bool × Env)) : Prop where
  ex : ∃ te, PW X e te ∧ ∀ W0 H σ r fps, Good cm W0 H σ r fps → ∀ Q, Post (f r) (QXT cm W0 H σ fps Q) (XX cm E W0 H σ fps) → te σ H Q
structure XA (X : Cx) (cm : Cm) (E : XS) (es : List Expr) (f : Env → Out (List D × Env)) : Prop where
  ex : ∃ te, PA X es te ∧ ∀ W0 H σ r fps, Good cm W0 H σ r fps → ∀ Q, Post (f r) (QXA cm W0 H σ fps Q) (XX cm E W0 H σ fps) → te σ H Q

def viewF (p : Nat → Bool) : Nat → Env → Env
  | _, [] => []
  | k, o :: r => (if p k = true then o.map frz else none) :: viewF p (k + 1) r
def frzF (p : Nat → Bool) : Nat → Env → Env
  | _, [] => []
  | k, o :: r => (if p k = true then o.map frz else o) :: frzF p (k + 1) r
abbrev view (ns : List Nat) (r : Env) : Env := viewF (fun k => ns.contains k) 0 r
abbrev frzN (ns : List Nat) (r : Env) : Env := frzF (fun k => ns.contains k) 0 r
theorem viewF_get (p : Nat → Bool) : ∀ (r : Env) (k i : Nat), (viewF p k r)[i]? = (r[i]?).map fun o => if p (k + i) = true then o.map frz else none
  | [], k, i => by simp [viewF]
  | o :: r, k, 0 => by simp [viewF]
  | o :: r, k, i + 1 => by
    simp only [viewF, List.getElem?_cons_succ, viewF_get p r (k + 1) i]
    rw [show k + 1 + i = k + (i + 1) by omega]
theorem frzF_get (p : Nat → Bool) : ∀ (r : Env) (k i : Nat), (frzF p k r)[i]? = (r[i]?).map fun o => if p (k + i) = true then o.map frz else o
  | [], k, i => by simp [frzF]
  | o :: r, k, 0 => by simp [frzF]
  | o :: r, k, i + 1 => by
    simp only [frzF, List.getElem?_cons_succ, frzF_get p r (k + 1) i]
    rw [show k + 1 + i = k + (i + 1) by omega]
theorem viewF_len (p : Nat → Bool) : ∀ (r : Env) (k : Nat), (viewF p k r).length = r.length
  | [], k => rfl
  | o :: r, k => by simp [viewF, viewF_len p r]
theorem frzF_len (p : Nat → Bool) : ∀ (r : Env) (k : Nat), (frzF p k r).length = r.length
  | [], k => rfl
  | o :: r, k => by simp [frzF, frzF_len p r]
def lift (ns : List Nat) (f : F) : FX := fun r => match f (view ns r) with
  | .ok d => .ok (d, if shr d = true then frzN ns r else r)
  | .exn x _ => .exn x (if shrs x.ds = true then frzN ns r else r)
  | .bad => .bad
def liftT (ns : List Nat) (f : Env → Out Bool) : Env → Out (Bool × Env) := fun r => match f (view ns r) with
  | .ok b => .ok (b, r)
  | .exn x _ => .exn x (if shrs x.ds = true then frzN ns r else r)
  | .bad => .bad
def liftA (ns : List Nat) (f : Env → Out (List D)) : Env → Out (List D × Env) := fun r => match f (view ns r) with
  | .ok ds => .ok (ds, if shrs ds = true then frzN ns r else r)
  | .exn x _ => .exn x (if shrs x.ds = true then frzN ns r else r)
  | .bad => .bad

section
variable {X : Cx} {cm : Cm} {E : XS} {b : Bool} {pos : Pos} {W0 : Addr → Prop} {H H' : Hp} {σ : St} {r : Env} {fps : Fps}
theorem Good.wof (g : Good cm W0 H σ r fps) : WOk cm (Wof W0 fps) H := ⟨fun a z => by
  rcases z with z | ⟨j, z⟩
  · exact g.w0.1 a z
  · exact g.mu j a z, g.w0.2⟩
theorem Good.ex (g : Good cm W0 H σ r fps) (e : Ex H H') : Good cm W0 H' σ r fps where
  len := g.len
  w0 := g.w0.ex e
  sl := fun i d h => by
    obtain ⟨v, h1, h2⟩ := g.sl i d h
    exact ⟨v, h1, h2.ex e⟩
  nd := g.nd
  dj := g.dj
  nw := g.nw
  mu := fun i a m => (g.mu i a m).ex e
abbrev Wr (W0 : Addr → Prop) (fps : Fps) (ns : List Nat) : Addr → Prop := fun a => W0 a ∨ ∃ j, ns.contains j = false ∧ a ∈ fps j
theorem Wr.sub {ns : List Nat} {a : Addr} (z : Wr W0 fps ns a) : Wof W0 fps a := z.imp id fun ⟨j, _, m⟩ => ⟨j, m⟩
theorem Good.view (g : Good cm W0 H σ r fps) (ns : List Nat) : FRep cm (Wr W0 fps ns) H σ (view ns r) := by
  refine ⟨by rw [viewF_len, g.len], fun i d h => ?_⟩
  rw [viewF_get, Nat.zero_add] at h
  obtain ⟨o, h1, h2⟩ := Option.map_eq_some_iff.mp h
  split at h2
  · rename_i hc
    obtain ⟨d', rfl, rfl⟩ := Option.map_eq_some_iff.mp h2
    obtain ⟨v, q1, q2⟩ := g.sl i d' h1
    refine ⟨v, q1, q2.frz (fun a z => z.sub) fun a m z => ?_⟩
    rcases z with z | ⟨j, hj, m'⟩
    · exact g.nw i a m z
    · have := g.dj i j a m m'
      subst this
      rw [hc] at hj; cases hj
  · cases h2
theorem Good.wr (g : Good cm W0 H σ r fps) (ns : List Nat) : WOk cm (Wr W0 fps ns) H := ⟨fun a z => g.wof.1 a z.sub, g.w0.2⟩
theorem Good.addv (g : Good cm W0 H σ r fps) {fpv : List Addr} (e : Ex H H') (hf : ∀ a ∈ fpv, H a = none) (hm : ∀ a ∈ fpv, MutAt H' a) : Good cm (Wp W0 fpv) H' σ r fps where
  len := g.len
  w0 := (g.w0.ex e).p (cm := cm) hm
  sl := fun i d h => by
    obtain ⟨v, h1, h2⟩ := g.sl i d h
    refine ⟨v, h1, h2.move (fun a z => ?_) fun a o q t _ => e.get a o q t⟩
    rcases z with (z | z) | z
    · exact .inl (.inl z)
    · exact .inr (hf a z)
    · exact .inl (.inr z)
  nd := g.nd
  dj := g.dj
  nw := fun i a m z => z.elim (g.nw i a m) fun z => (g.mu i a m).there (hf a z)
  mu := fun i a m => (g.mu i a m).ex e
theorem Good.frzN (g : Good cm W0 H σ r fps) (ns : List Nat) : Good cm W0 H σ (frzN ns r) (fun j => if ns.contains j = true then [] else fps j) := by
  have sub : ∀ {j a}, a ∈ (if ns.contains j = true then [] else fps j) → ns.contains j = false ∧ a ∈ fps j := fun {j a} m => by
    split at m
    · cases m
    · rename_i h
      exact ⟨by simpa using h, m⟩
  refine ⟨by rw [frzF_len, g.len], g.w0, fun i d h => ?_, fun i => ?_, fun i j a m m' => g.dj i j a (sub m).2 (sub m').2, fun i a m => g.nw i a (sub m).2, fun i a m => g.mu i a (sub m).2⟩
  · rw [frzF_get, Nat.zero_add] at h
    obtain ⟨o, h1, h2⟩ := Option.map_eq_some_iff.mp h
    have wsub : ∀ a, Wof W0 (fun j => if ns.contains j = true then [] else fps j) a → Wof W0 fps a := fun a z => z.imp id fun ⟨j, m⟩ => ⟨j, (sub m).2⟩
    split at h2
    · rename_i hc
      obtain ⟨d', rfl, rfl⟩ := Option.map_eq_some_iff.mp h2
      obtain ⟨v, q1, q2⟩ := g.sl i d' h1
      rw [if_pos hc]
      refine ⟨v, q1, q2.frz wsub fun a m z => ?_⟩
      rcases z with z | ⟨j, m'⟩
      · exact g.nw i a m z
      · have := g.dj i j a m (sub m').2
        subst this
        have := (sub m').1
        rw [hc] at this; cases this
    · rename_i hc
      subst h2
      obtain ⟨v, q1, q2⟩ := g.sl i d h1
      rw [if_neg hc]
      exact ⟨v, q1, q2.move (fun a z => .inl (wsub a z)) fun _ _ q _ _ => q⟩
  · split
    · exact List.nodup_nil
    · exact g.nd i
theorem noW_of {W : Addr → Prop} (h : WOk cm W H) : NoW H W := fun a o e m z => by
  obtain ⟨o', h1, h2⟩ := h.1 a z
  rw [e] at h1; cases h1
  rw [m] at h2; cases h2
theorem Good.settle (g : Good cm W0 H σ r fps) (ns : List Nat) {vs : List V} {ds : List D} {fpv : List Addr} (e : Ex H H') (rp : Reps cm (Wp (Wr W0 fps ns) fpv) H' vs ds fpv) (fn : FpN true H fpv) :
    ∃ fps', Good cm (Wp W0 fpv) H' σ (if shrs ds = true then DL.frzN ns r else r) fps' ∧ Reps cm (Wof (Wp W0 fpv) fps') H' vs ds fpv ∧ (∀ a ∈ fpv, ¬ W0 a) ∧ Fram H fps H' fps' fpv := by
  have hm : ∀ a ∈ fpv, MutAt H' a := fun a m => rp.own a m
  have hw : ∀ a ∈ fpv, ¬ W0 a := fun a m z => (g.w0.1 a z).there (fn.2 a m)
  split
  · have g2 := (g.frzN ns).addv e fn.2 hm
    refine ⟨_, g2, rp.move (fun a z => ?_) fun _ _ q _ _ => q, hw, ⟨fun a o h _ t => e.get a o h t, fun i a m => ?_, fun a m => .inr (fn.2 a m), fun _ h => e.back h, e.tb⟩⟩
    · rcases z with (z | z) | ⟨j, m⟩
      · exact .inl (.inl (.inl z))
      · exact .inl (.inr z)
      · dsimp only at m
        split at m
        · cases m
        · rename_i h
          exact .inl (.inl (.inr ⟨j, by simpa using h, m⟩))
    · split at m
      · cases m
      · exact .inl ⟨i, m⟩
  · rename_i hs
    have g2 := g.addv e fn.2 hm
    exact ⟨fps, g2, rp.anyW (noW_of g2.wof) (by simpa using hs), hw, Fram.of_ex e fn.2⟩
theorem Reps.one {W : Addr → Prop} {v : V} {d : D} {fp : List Addr} (h : Rep cm W H v d fp) : Reps cm W H [v] [d] fp := by
  have := Reps.cons h (Reps.nil (cm := cm) (W := W) (H := H))
  rwa [List.append_nil] at this
theorem Reps.the {W : Addr → Prop} {v : V} {d : D} {fp : List Addr} (h : Reps cm W H [v] [d] fp) : Rep cm W H v d fp := by
  cases h with
  | cons h1 h2 =>
    cases h2
    rwa [List.append_nil]
theorem XX.of_x (g : Good cm W0 H σ r fps) {x : Xc} (ns : List Nat) (h : XX cm E W0 H σ fps x (if shrs x.ds = true then DL.frzN ns r else r)) : ∀ r', XPost cm (E σ) (Wr W0 fps ns) H x r' := fun r' H' dx e xr => by
  have w0 : ∀ {fps'}, Good cm (Wp W0 []) H' σ (if shrs x.ds = true then DL.frzN ns r else r) fps' → Good cm W0 H' σ (if shrs x.ds = true then DL.frzN ns r else r) fps' := fun {fps'} g' =>
    ⟨g'.len, ⟨fun a z => g'.w0.1 a (.inl z), g'.w0.2⟩, fun i d q => by
      obtain ⟨v, k1, k2⟩ := g'.sl i d q
      exact ⟨v, k1, k2.move (fun a z => .inl (z.imp .inl id)) fun _ _ q _ _ => q⟩, g'.nd, g'.dj, fun i a m z => g'.nw i a m (.inl z), g'.mu⟩
  rcases xr with ⟨xr, rfl⟩ | ⟨a, vs, rfl, h2, h3, h4⟩
  · obtain ⟨fps', g', _, _, fm⟩ := g.settle ns (vs := []) (ds := []) (fpv := []) e .nil FpN.nil
    cases hx : shrs x.ds with
    | false =>
      rw [hx] at h
      exact h H' fps none (g.ex e) (Fram.of_ex e fun _ m => (nomatch m)) (.inl ⟨xr, rfl⟩)
    | true =>
      rw [hx] at h
      exact h H' _ none ((g.frzN ns).ex e) ⟨fun a o q _ t => e.get a o q t, fun i a m => by
        split at m
        · cases m
        · exact .inl ⟨i, m⟩, fun _ m => (nomatch m), fun _ q => e.back q, e.tb⟩ (.inl ⟨xr, rfl⟩)
  · obtain ⟨fps', g', rp', _, fm⟩ := g.settle ns (fpv := []) e h4.toP FpN.nil
    exact h H' fps' _ (w0 g') fm (.inr ⟨a, vs, rfl, h2, h3, rp'.move (fun a z => .inl (z.imp .inl id)) fun _ _ q _ _ => q⟩)
theorem xe_lift {e : Expr} {f : F} (ns : List Nat) (h : DE X cm E true e f) : XE X cm E e (lift ns f) := by
  obtain ⟨te, h1, h2⟩ := h.ex
  refine ⟨te, h1, fun W0 H σ r fps g Q hp => h2 (Wr W0 fps ns) H σ (view ns r) (g.wr ns) (g.view ns) Q ?_⟩
  unfold lift at hp
  split at hp
  · rename_i d hd
    rw [hd]
    intro v H' fpv e1 rp fn
    obtain ⟨fps', g', rp', hw, fm⟩ := g.settle ns e1 (Reps.one rp) fn
    have hs : shrs [d] = shr d := by simp [shrs]
    rw [hs] at g'
    exact hp v H' fps' fpv g' rp'.the fn.1 hw fm
  · rename_i x r' hd
    rw [hd]
    exact XX.of_x g ns hp r'
  · exact hp.elim
theorem xa_lift {es : List Expr} {f : Env → Out (List D)} (ns : List Nat) (h : DA X cm E true es f) : XA X cm E es (liftA ns f) := by
  obtain ⟨te, h1, h2⟩ := h.ex
  refine ⟨te, h1, fun W0 H σ r fps g Q hp => h2 (Wr W0 fps ns) H σ (view ns r) (g.wr ns) (g.view ns) Q ?_⟩
  unfold liftA at hp
  split at hp
  · rename_i d hd
    rw [hd]
    intro v H' fpv e1 rp fn
    obtain ⟨fps', g', rp', hw, fm⟩ := g.settle ns e1 rp fn
    exact hp v H' fps' fpv g' rp' fn.1 hw fm
  · rename_i x r' hd
    rw [hd]
    exact XX.of_x g ns hp r'
  · exact hp.elim
theorem xt_lift {e : Expr} {f : Env → Out Bool} (ns : List Nat) (h : DT X cm E e f) : XT X cm E e (liftT ns f) := by
  obtain ⟨te, h1, h2⟩ := h.ex
  refine ⟨te, h1, fun W0 H σ r fps g Q hp => h2 (Wr W0 fps ns) H σ (view ns r) (g.wr ns) (g.view ns) Q ?_⟩
  unfold liftT at hp
  split at hp
  · rename_i d hd
    rw [hd]
    exact fun H' e1 => hp H' fps (g.ex e1) (Fram.of_ex e1 fun _ m => (nomatch m))
  · rename_i x r' hd
    rw [hd]
    exact XX.of_x g ns hp r'
  · exact hp.elim
theorem Good.drop {fpv : List Addr} (g : Good cm (Wp W0 fpv) H σ r fps) : Good cm W0 H σ r fps :=
  ⟨g.len, ⟨fun a z => g.w0.1 a (.inl z), g.w0.2⟩, fun i d q => by
    obtain ⟨v, k1, k2⟩ := g.sl i d q
    exact ⟨v, k1, k2.move (fun a z => .inl (z.imp .inl id)) fun _ _ q _ _ => q⟩, g.nd, g.dj, fun i a m z => g.nw i a m (.inl z), g.mu⟩
theorem Rep.over {W0 : Addr → Prop} {H1 H2 : Hp} {f1 f2 : Fps} {v : V} {d : D} {fpv fq : List Addr} (h : Rep cm (Wof (Wp W0 fpv) f1) H1 v d fpv) (nd : ∀ i, ∀ a ∈ f1 i, a ∉ fpv) (fm : Fram H1 f1 H2 f2 fq) : Rep cm (Wof (Wp W0 (fpv ++ fq)) f2) H2 v d fpv := by
  refine h.move (fun a z => ?_) fun a o q t c => fm.keep a o q (fun i m => ?_) t
  · rcases z with (z | z) | ⟨j, z⟩
    · exact .inl (.inl (.inl z))
    · rcases List.mem_append.mp z with z | z
      · exact .inl (.inl (.inr z))
      · rcases fm.oldv a z with ⟨j, q⟩ | q
        · exact .inl (.inr ⟨j, q⟩)
        · exact .inr q
    · rcases fm.old j a z with ⟨j, q⟩ | q
      · exact .inl (.inr ⟨j, q⟩)
      · exact .inr q
  · rcases c with c | c
    · exact c (.inr ⟨i, m⟩)
    · exact nd i a m c
theorem wp_wp (f1 f2 : List Addr) : Wp (Wp W0 f1) f2 = Wp W0 (f1 ++ f2) := by
  funext a
  apply propext
  show ((W0 a ∨ a ∈ f1) ∨ a ∈ f2) ↔ (W0 a ∨ a ∈ f1 ++ f2)
  rw [List.mem_append, or_assoc]
theorem wp_nil : Wp W0 [] = W0 := by
  funext a
  apply propext
  show (W0 a ∨ a ∈ []) ↔ W0 a
  simp
theorem two {H1 H2 : Hp} {f1 f2 : Fps} {v1 : V} {d1 : D} {p1 p2 : List Addr} {r1 r2 : Env} {vs : List V} {ds : List D} (g1 : Good cm (Wp W0 p1) H1 σ r1 f1) (k1 : Rep cm (Wof (Wp W0 p1) f1) H1 v1 d1 p1) (n1 : p1.Nodup) (w1 : ∀ a ∈ p1, ¬ W0 a) (m1 : Fram H fps H1 f1 p1)
    (g2 : Good cm (Wp (Wp W0 p1) p2) H2 σ r2 f2) (k2 : Reps cm (Wof (Wp (Wp W0 p1) p2) f2) H2 vs ds p2) (n2 : p2.Nodup) (w2 : ∀ a ∈ p2, ¬ Wp W0 p1 a) (m2 : Fram H1 f1 H2 f2 p2) :
    Good cm (Wp W0 (p1 ++ p2)) H2 σ r2 f2 ∧ Reps cm (Wof (Wp W0 (p1 ++ p2)) f2) H2 (v1 :: vs) (d1 :: ds) (p1 ++ p2) ∧ (p1 ++ p2).Nodup ∧ (∀ a ∈ p1 ++ p2, ¬ W0 a) ∧ Fram H fps H2 f2 (p1 ++ p2) := by
  rw [wp_wp] at g2 k2
  refine ⟨g2, .cons (k1.over (fun i a m z => g1.nw i a m (.inr z)) m2) k2, List.nodup_append.mpr ⟨n1, n2, fun a m c m' z => w2 c m' (.inr (z ▸ m))⟩, fun a m => ?_, (m1.trans m2).addv fun a m => ?_⟩
  · rcases List.mem_append.mp m with m | m
    · exact w1 a m
    · exact fun z => w2 a m (.inl z)
  · rcases List.mem_append.mp m with m | m
    · exact m1.oldv a m
    · exact (m1.trans m2).oldv a m
def xNil : Env → Out (List D × Env) := fun r => .ok ([], r)
def xCons (f : FX) (h : Env → Out (List D × Env)) : Env → Out (List D × Env) := fun r => (f r).bind fun p => (h p.2).bind fun q => .ok (p.1 :: q.1, q.2)
theorem xa_nil : XA X cm E [] xNil := ⟨_, pa_nil, fun W0 H σ r fps g Q hp => hp [] H fps [] (by rw [wp_nil]; exact g) .nil List.nodup_nil (fun _ m => (nomatch m)) (Fram.refl H fps)⟩
theorem XX.later {H1 : Hp} {f1 : Fps} {p1 : List Addr} {x : Xc} {rr : Env} (m1 : Fram H fps H1 f1 p1) (h : XX cm E W0 H σ fps x rr) : XX cm E (Wp W0 p1) H1 σ f1 x rr := fun H' fps' dx g fm xr => h H' fps' dx g.drop ((m1.trans fm).addv fun _ m => (nomatch m)) (xr.weak fun a z => z.imp .inl id)
theorem xa_cons {e : Expr} {es : List Expr} {f : FX} {h : Env → Out (List D × Env)} (h1 : XE X cm E e f) (h2 : XA X cm E es h) (hs : starEach (e :: es) X.env = (false, eval e X.env) :: starEach es X.env := by rfl) : XA X cm E (e :: es) (xCons f h) := by
  obtain ⟨ta, a1, a2⟩ := h1.ex
  obtain ⟨tb, b1, b2⟩ := h2.ex
  refine ⟨_, pa_cons a1 b1 hs, fun W0 H σ r fps g Q hp => a2 W0 H σ r fps g _ (hp.bind.mono (fun p q v H1 f1 p1 g1 k1 n1 w1 m1 => ?_) fun _ _ z => z)⟩
  refine b2 (Wp W0 p1) H1 σ p.2 f1 g1 _ (q.bind.mono (fun p' q' vs H2 f2 p2 g2 k2 n2 w2 m2 => ?_) fun x rr z => XX.later m1 z)
  obtain ⟨z1, z2, z3, z4, z5⟩ := two g1 k1 n1 w1 m1 g2 k2 n2 w2 m2
  exact q' _ H2 f2 _ z1 z2 z3 z4 z5
def xLst (h : Env → Out (List D × Env)) : FX := fun r => (h r).bind fun p => if p.1.length ≤ 1000 then .ok (.lst true p.1, p.2) else .bad
def xTup (h : Env → Out (List D × Env)) : FX := fun r => (h r).bind fun p => if p.1.length ≤ 1000 then .ok (.tup p.1, p.2) else .bad
theorem laid {H1 : Hp} {f1 : Fps} {p1 fpv' : List Addr} {r1 : Env} {p : Addr} {o : HO} (g1 : Good cm (Wp W0 p1) H1 σ r1 f1) (m1 : Fram H fps H1 f1 p1) (hp : H1 p = none) (hsub : ∀ a ∈ fpv', a = p ∨ a ∈ p1) (hm : ∀ a ∈ fpv', MutAt (upd H1 p o) a) :
    Good cm (Wp W0 fpv') (upd H1 p o) σ r1 f1 ∧ Fram H fps (upd H1 p o) f1 fpv' := by
  have g2 := g1.drop
  refine ⟨⟨g2.len, ⟨fun a z => ?_, (Ex.new hp).tb g2.w0.2⟩, fun i d q => ?_, g2.nd, g2.dj, fun i a m z => ?_, fun i a m => (g2.mu i a m).ex (Ex.new hp)⟩, ⟨fun a o' q n t => ?_, m1.old, fun a m => ?_, fun a q => m1.back a ((Ex.new hp).back q), fun h => (Ex.new hp).tb (m1.tb h)⟩⟩
  · rcases z with z | z
    · exact (g2.w0.1 a z).ex (Ex.new hp)
    · exact hm a z
  · obtain ⟨v, k1, k2⟩ := g1.sl i d q
    refine ⟨v, k1, k2.move (fun a z => ?_) fun a o' q t _ => (Ex.new hp).get a o' q t⟩
    rcases z with (z | z) | z
    · exact .inl (.inl (.inl z))
    · rcases hsub a z with rfl | z
      · exact .inr hp
      · exact .inl (.inl (.inr z))
    · exact .inl (.inr z)
  · rcases z with z | z
    · exact g2.nw i a m z
    · rcases hsub a z with rfl | z
      · exact (g2.mu i a m).there hp
      · exact g1.nw i a m (.inr z)
  · rw [upd_ne (ne_of_none (m1.keep a o' q n t) hp)]
    exact m1.keep a o' q n t
  · rcases hsub a m with rfl | m
    · exact .inr (m1.back _ hp)
    · exact m1.oldv a m
theorem xe_lst {es : List Expr} {h : Env → Out (List D × Env)} (h1 : XA X cm E es h) : XE X cm E (.List es pos) (xLst h) := by
  obtain ⟨ta, a1, a2⟩ := h1.ex
  refine ⟨_, pe_lst a1, fun W0 H σ r fps g Q hp => a2 W0 H σ r fps g _ (hp.bind.mono (fun p q vs H1 f1 p1 g1 k1 n1 w1 m1 => ?_) fun _ _ z => z)⟩
  split at q
  · rename_i hl
    refine ⟨by rw [k1.len]; exact small1000' hl, fun a ha => ?_⟩
    obtain ⟨g2, m2⟩ := laid (fpv' := a :: p1) (o := .lst vs) g1 m1 ha (fun c m => List.mem_cons.mp m) fun c m => by
      rcases List.mem_cons.mp m with rfl | m
      · exact ⟨_, upd_same, rfl⟩
      · exact (k1.own c m).ex (Ex.new ha)
    refine q (.ref a) _ f1 (a :: p1) g2 (.lstO upd_same (k1.move (fun c z => ?_) fun c o q t _ => (Ex.new ha).get c o q t)) (List.nodup_cons.mpr ⟨fun m => (k1.own a m).there ha, n1⟩) (fun c m => ?_) m2
    · rcases z with (z | z) | z
      · exact .inl (.inl (.inl z))
      · rcases List.mem_cons.mp z with rfl | z
        · exact .inr ha
        · exact .inl (.inl (.inr z))
      · exact .inl (.inr z)
    · rcases List.mem_cons.mp m with rfl | m
      · exact fun z => (g1.w0.1 _ (.inl z)).there ha
      · exact w1 c m
  · exact q.elim
theorem xe_tup {es : List Expr} {h : Env → Out (List D × Env)} {x1} (h1 : XA X cm E es h) : XE X cm E (.Tuple es x1 pos) (xTup h) := by
  obtain ⟨ta, a1, a2⟩ := h1.ex
  refine ⟨_, pe_tup a1, fun W0 H σ r fps g Q hp => a2 W0 H σ r fps g _ (hp.bind.mono (fun p q vs H1 f1 p1 g1 k1 n1 w1 m1 => ?_) fun _ _ z => z)⟩
  split at q
  · rename_i hl
    refine ⟨by rw [k1.len]; exact small1000' hl, fun a ha => ?_⟩
    obtain ⟨g2, m2⟩ := laid (fpv' := p1) (o := .tup vs) g1 m1 ha (fun c m => .inr m) fun c m => (k1.own c m).ex (Ex.new ha)
    refine q (.ref a) _ f1 p1 g2 (.tup upd_same (fun z => ?_) (k1.ex (Ex.new ha))) n1 w1 m2
    rcases z with (z | z) | ⟨j, z⟩
    · exact (g1.w0.1 _ (.inl z)).there ha
    · exact (k1.own _ z).there ha
    · exact (g1.mu j _ z).there ha
  · exact q.elim
def x2 (gg : D → D → Out D) (f h : FX) : FX := fun r => (f r).bind fun p => (h p.2).bind fun q => (gg (frz p.1) (frz q.1)).bind fun d => .ok (d, q.2)
def x1 (gg : D → Out D) (f : FX) : FX := fun r => (f r).bind fun p => (gg (frz p.1)).bind fun d => .ok (d, p.2)
theorem opened {H1 : Hp} {f1 : Fps} {p1 : List Addr} {r1 : Env} {Q : VK} {o : Out D} (g1 : Good cm (Wp W0 p1) H1 σ r1 f1) (m1 : Fram H fps H1 f1 p1) (q : Post (o.bind fun d => .ok (d, r1)) (QX cm W0 H σ fps Q) (XX cm E W0 H σ fps)) (hn : ∀ x rr, o ≠ .exn x rr) :
    Post o (QP cm (Wof W0 f1) true H1 Q) noX := by
  refine Post.noX ((Post.bind q).mono (fun d z v H2 fpv e2 rp fn => ?_) fun x rr z => z) hn
  have hm : ∀ a ∈ fpv, MutAt H2 a := fun a m => rp.own a m
  refine z v H2 f1 fpv (g1.drop.addv e2 fn.2 hm) (rp.move (fun a z => .inl ?_) fun _ _ q _ _ => q) fn.1 (fun a m z => (g1.w0.1 a (.inl z)).there (fn.2 a m)) ((m1.trans (Fram.of_ex e2 fn.2)).addv fun a m => .inr (m1.back a (fn.2 a m)))
  rcases z with (z | z) | z
  · exact .inl (.inl z)
  · exact .inr z
  · exact .inl (.inr z)
theorem Rep.open {H1 : Hp} {f1 : Fps} {p1 p2 : List Addr} {v : V} {d : D} {r1 : Env} (g1 : Good cm (Wp W0 p1) H1 σ r1 f1) (w1 : ∀ a ∈ p1, ¬ W0 a) (k : Rep cm (Wof (Wp W0 p1) f1) H1 v d p2) (hs : ∀ a ∈ p2, a ∈ p1) : Rep cm (Wof W0 f1) H1 v (DL.frz d) [] := k.frz (fun a z => z.imp .inl id) fun a m z => by
  rcases z with z | ⟨j, z⟩
  · exact w1 a (hs a m) z
  · exact g1.nw j a z (.inr (hs a m))
theorem Reps.open {H1 : Hp} {f1 : Fps} {p1 p2 : List Addr} {v : List V} {d : List D} {r1 : Env} (g1 : Good cm (Wp W0 p1) H1 σ r1 f1) (w1 : ∀ a ∈ p1, ¬ W0 a) (k : Reps cm (Wof (Wp W0 p1) f1) H1 v d p2) (hs : ∀ a ∈ p2, a ∈ p1) : Reps cm (Wof W0 f1) H1 v (DL.frzs d) [] := k.frz (fun a z => z.imp .inl id) fun a m z => by
  rcases z with z | ⟨j, z⟩
  · exact w1 a (hs a m) z
  · exact g1.nw j a z (.inr (hs a m))
theorem xcon2 {rr : R2} {gg : D → D → Out D} {ta tb : TE} {f h : FX} (ho : Op2' cm true rr gg) (hn : NoEx gg) (ha : ∀ W0 H σ r fps, Good cm W0 H σ r fps → ∀ Q, Post (f r) (QX cm W0 H σ fps Q) (XX cm E W0 H σ fps) → ta σ H Q) (hb : ∀ W0 H σ r fps, Good cm W0 H σ r fps → ∀ Q, Post (h r) (QX cm W0 H σ fps Q) (XX cm E W0 H σ fps) → tb σ H Q) :
    ∀ W0 H σ r fps, Good cm W0 H σ r fps → ∀ Q, Post (x2 gg f h r) (QX cm W0 H σ fps Q) (XX cm E W0 H σ fps) → tOp rr ta tb σ H Q := fun W0 H σ r fps g Q hp =>
  ha W0 H σ r fps g _ (hp.bind.mono (fun p q v H1 f1 p1 g1 k1 n1 w1 m1 => hb (Wp W0 p1) H1 σ p.2 f1 g1 _ (q.bind.mono (fun p' q' u H2 f2 p2 g2 k2 n2 w2 m2 => by
    obtain ⟨z1, z2, z3, z4, z5⟩ := two g1 k1 n1 w1 m1 g2 (Reps.one k2) n2 w2 m2
    have o2 := z2.open z1 z4 fun _ m => m
    obtain ⟨a', e1, e2⟩ := o2.at rfl (i := 0) (d := frz p.1) rfl
    obtain ⟨b', e3, e4⟩ := o2.at rfl (i := 1) (d := frz p'.1) rfl
    cases e1; cases e3
    exact ho (Wof W0 f2) H2 v u _ _ z1.drop.wof e2 e4 Q (opened z1 z5 q' (hn _ _))) fun x rr z => XX.later m1 z)) fun _ _ z => z)
variable {a c : Expr} {fa fb : FX}
theorem xe_op {op : Operator} {rr : R2} {gg : D → D → Out D} (hr : OpR X (binaryOp op) rr) (ho : Op2' cm true rr gg) (hn : NoEx gg) (ha : XE X cm E a fa) (hb : XE X cm E c fb) : XE X cm E (.BinOp a op c pos) (x2 gg fa fb) := by
  obtain ⟨ta, h1, h2⟩ := ha.ex
  obtain ⟨tb, h3, h4⟩ := hb.ex
  exact ⟨_, pe_op hr h1 h3, xcon2 ho hn h2 h4⟩
theorem xe_ix {rr : R2} {gg : D → D → Out D} (hr : IxR X rr) (ho : Op2' cm true rr gg) (hn : NoEx gg) (hs : PlainIx c) (ha : XE X cm E a fa) (hb : XE X cm E c fb) : XE X cm E (.Subscript a c pos) (x2 gg fa fb) := by
  obtain ⟨ta, h1, h2⟩ := ha.ex
  obtain ⟨tb, h3, h4⟩ := hb.ex
  exact ⟨_, pe_ix hr h1 h3 hs, xcon2 ho hn h2 h4⟩
end
end DL

namespace DL
variable [Tbs]
open PySem L2

inductive SO where
  | nx (r : Env) | rt (d : D) (r : Env) | bk (r : Env) | ct (r : Env) | exn (x : Xc) (r : Env) | bad
abbrev FS := Env → SO
abbrev k0 : Nat → Bool := fun _ => false
abbrev k1 : Nat → Bool := fun j => j == 0
abbrev kx (ts : List Nat) : Nat → Bool := fun j => !ts.contains j
def Keep (ks : Nat → Bool) (σ σ' : St) : Prop := σ'.length = σ.length ∧ ∀ (j : Nat), ks j = true → σ'[j]? = σ[j]?
theorem Keep.refl (ks : Nat → Bool) (σ : St) : Keep ks σ σ := ⟨rfl, fun _ _ => rfl⟩
theorem Keep.trans {ks : Nat → Bool} {σ σ1 σ2 : St} (a : Keep ks σ σ1) (b : Keep ks σ1 σ2) : Keep ks σ σ2 := ⟨b.1.trans a.1, fun j h => (b.2 j h).trans (a.2 j h)⟩
def SPost (cm : Cm) (E : XS) (W0 : Addr → Prop) (H : Hp) (σ : St) (fps : Fps) (ks : Nat → Bool) (D : Ends) : SO → Prop
  | .nx r' => ∀ σ' H' fps', Good cm W0 H' σ' r' fps' → Fram H fps H' fps' [] → Keep ks σ σ' → D.nx σ' H'
  | .bk r' => ∀ σ' H' fps', Good cm W0 H' σ' r' fps' → Fram H fps H' fps' [] → Keep ks σ σ' → D.bk σ' H'
  | .ct r' => ∀ σ' H' fps', Good cm W0 H' σ' r' fps' → Fram H fps H' fps' [] → Keep ks σ σ' → D.ct σ' H'
  | .rt d r' => ∀ v σ' H' fps' fpv, Good cm (Wp W0 fpv) H' σ' r' fps' → Rep cm (Wof (Wp W0 fpv) fps') H' v d fpv → fpv.Nodup → (∀ a ∈ fpv, ¬ W0 a) → Fram H fps H' fps' fpv → Keep ks σ σ' → D.rt v H'
  | .exn x r' => ∀ σ' H' fps' dx, Good cm W0 H' σ' r' fps' → Fram H fps H' fps' [] → Keep ks σ σ' → XRep cm (Wof W0 fps') H' x dx → E σ' (.ref (cm.cl x.cls)) dx H'
  | .bad => False
def SCon (cm : Cm) (E : XS) (ks : Nat → Bool) (ts : TS) (g : FS) : Prop := ∀ W0 H σ r fps, Good cm W0 H σ r fps → ∀ D, SPost cm E W0 H σ fps ks D (g r) → ts D σ H
structure DS (X : Cx) (cm : Cm) (E : XS) (ks : Nat → Bool) (st : Stmt) (g : FS) : Prop where
  ex : ∃ ts, PS X st ts ∧ SCon cm E ks ts g
structure DSs (X : Cx) (cm : Cm) (E : XS) (ks : Nat → Bool) (st : List Stmt) (g : FS) : Prop where
  ex : ∃ ts, PSs X st ts ∧ SCon cm E ks ts g
theorem SPost.later {cm : Cm} {E : XS} {W0 : Addr → Prop} {H H1 : Hp} {σ σ1 : St} {fps f1 : Fps} {ks : Nat → Bool} {D : Ends} {o : SO} (fm : Fram H fps H1 f1 []) (k : Keep ks σ σ1) (h : SPost cm E W0 H σ fps ks D o) : SPost cm E W0 H1 σ1 f1 ks D o := by
  cases o with
  | nx r => exact fun σ' H' fps' g f2 k2 => h σ' H' fps' g (fm.trans f2) (k.trans k2)
  | bk r => exact fun σ' H' fps' g f2 k2 => h σ' H' fps' g (fm.trans f2) (k.trans k2)
  | ct r => exact fun σ' H' fps' g f2 k2 => h σ' H' fps' g (fm.trans f2) (k.trans k2)
  | rt d r => exact fun v σ' H' fps' fpv g rp nd nw f2 k2 => h v σ' H' fps' fpv g rp nd nw (fm.trans f2) (k.trans k2)
  | exn x r => exact fun σ' H' fps' dx g f2 k2 xr => h σ' H' fps' dx g (fm.trans f2) (k.trans k2) xr
  | bad => exact h
def sNext : FS := fun r => .nx r
def sSeq (f g : FS) : FS := fun r => match f r with
  | .nx r1 => g r1
  | o => o
def sBreak : FS := fun r => .bk r
def sCont : FS := fun r => .ct r
def sRet (f : FX) : FS := fun r => match f r with
  | .ok p => .rt p.1 p.2
  | .exn x r' => .exn x r'
  | .bad => .bad
def sDrop (f : FX) : FS := fun r => match f r with
  | .ok p => .nx p.2
  | .exn x r' => .exn x r'
  | .bad => .bad
def sSet (i : Nat) (f : FX) : FS := fun r => match f r with
  | .ok p => if i < p.2.length then .nx (p.2.set i (some p.1)) else .bad
  | .exn x r' => .exn x r'
  | .bad => .bad
def sIf (t : Env → Out (Bool × Env)) (f g : FS) : FS := fun r => match t r with
  | .ok p => if p.1 = true then f p.2 else g p.2
  | .exn x r' => .exn x r'
  | .bad => .bad
def forS (tg : D → Env → Out Env) (body : FS) : List D → FS
  | [], r => .nx r
  | d :: ds, r => match tg d r with
    | .ok r1 => match body r1 with
      | .nx r2 => forS tg body ds r2
      | .ct r2 => forS tg body ds r2
      | .bk r2 => .nx r2
      | o => o
    | _ => .bad
def sFor (it : Env → Out (List D × Env)) (tg : D → Env → Out Env) (body : FS) : FS := fun r => match it r with
  | .ok p => forS tg body p.1 p.2
  | .exn x r' => .exn x r'
  | .bad => .bad
def whileS (t : Env → Out (Bool × Env)) (body : FS) : Nat → FS
  | 0, _ => .bad
  | n + 1, r => match t r with
    | .ok p => if p.1 = true then (match body p.2 with
      | .nx r2 => whileS t body n r2
      | .ct r2 => whileS t body n r2
      | .bk r2 => .nx r2
      | o => o) else .nx p.2
    | .exn x r' => .exn x r'
    | .bad => .bad

section
variable {X : Cx} {cm : Cm} {E : XS} {ks : Nat → Bool} {pos : Pos} {st : Stmt} {sts : List Stmt} {e tg : Expr} {f : FX} {g h : FS}
theorem ds_nil : DSs X cm E ks [] sNext := ⟨_, pss_nil, fun W0 H σ r fps g D hp => hp σ H fps g (Fram.refl H fps) (Keep.refl ks σ)⟩
theorem ds_cons (h1 : DS X cm E ks st g) (h2 : DSs X cm E ks sts h) : DSs X cm E ks (st :: sts) (sSeq g h) := by
  obtain ⟨t, a1, a2⟩ := h1.ex
  obtain ⟨u, b1, b2⟩ := h2.ex
  refine ⟨_, pss_cons a1 b1, fun W0 H σ r fps gd D hp => a2 W0 H σ r fps gd _ ?_⟩
  unfold sSeq at hp
  cases hg : g r with
  | nx r1 =>
    rw [hg] at hp
    exact fun σ' H' fps' g' fm k => b2 W0 H' σ' r1 fps' g' D (SPost.later fm k hp)
  | rt d r' => rw [hg] at hp; exact hp
  | bk r' => rw [hg] at hp; exact hp
  | ct r' => rw [hg] at hp; exact hp
  | exn x r' => rw [hg] at hp; exact hp
  | bad => rw [hg] at hp; exact hp.elim
theorem ds_one (h1 : DS X cm E ks st g) : DSs X cm E ks [st] g := by
  obtain ⟨t, a1, a2⟩ := h1.ex
  exact ⟨_, pss_one a1, a2⟩
theorem ds_never : DS X cm E ks st (fun _ => .bad) := ⟨_, ps_never, fun W0 H σ r fps g D hp => hp⟩
theorem ds_ret (h1 : XE X cm E e f) : DS X cm E ks (.Return (some e) pos) (sRet f) := by
  obtain ⟨t, a1, a2⟩ := h1.ex
  refine ⟨_, ps_ret a1, fun W0 H σ r fps g D hp => a2 W0 H σ r fps g _ ?_⟩
  unfold sRet at hp
  split at hp
  · rename_i p hr
    rw [hr]
    exact fun v H' fps' fpv g' rp nd nw fm => hp v σ H' fps' fpv g' rp nd nw fm (Keep.refl ks σ)
  · rename_i x r' hr
    rw [hr]
    exact fun H' fps' dx g' fm xr => hp σ H' fps' dx g' fm (Keep.refl ks σ) xr
  · exact hp.elim
theorem ds_expr (h1 : XE X cm E e f) (hs : swapsWith e none pos.line X.env = pure false := by rfl) : DS X cm E ks (.Expr e pos) (sDrop f) := by
  obtain ⟨t, a1, a2⟩ := h1.ex
  refine ⟨_, ps_expr a1 hs, fun W0 H σ r fps g D hp => a2 W0 H σ r fps g _ ?_⟩
  unfold sDrop at hp
  split at hp
  · rename_i p hr
    rw [hr]
    exact fun v H' fps' fpv g' rp nd nw fm => hp σ H' fps' g'.drop (fm.addv fun _ m => (nomatch m)) (Keep.refl ks σ)
  · rename_i x r' hr
    rw [hr]
    exact fun H' fps' dx g' fm xr => hp σ H' fps' dx g' fm (Keep.refl ks σ) xr
  · exact hp.elim
theorem Good.put {W0 : Addr → Prop} {H : Hp} {σ : St} {r : Env} {fps : Fps} {v : V} {d : D} {fpv : List Addr} (g : Good cm (Wp W0 fpv) H σ r fps) (rp : Rep cm (Wof (Wp W0 fpv) fps) H v d fpv) (nd : fpv.Nodup) (nw : ∀ a ∈ fpv, ¬ W0 a) (i : Nat) :
    Good cm W0 H (σ.set i (some v)) (r.set i (some d)) (fun j => if j = i then fpv else fps j) := by
  have sub : ∀ {j a}, a ∈ (if j = i then fpv else fps j) → (j = i ∧ a ∈ fpv) ∨ (j ≠ i ∧ a ∈ fps j) := fun {j a} m => by
    split at m
    · exact .inl ⟨by assumption, m⟩
    · exact .inr ⟨by assumption, m⟩
  have wsub : ∀ a, Wof W0 (fun j => if j = i then fpv else fps j) a → Wof (Wp W0 fpv) fps a := fun a z => by
    rcases z with z | ⟨j, m⟩
    · exact .inl (.inl z)
    · rcases sub m with ⟨_, m⟩ | ⟨_, m⟩
      · exact .inl (.inr m)
      · exact .inr ⟨j, m⟩
  refine ⟨by rw [List.length_set, List.length_set, g.len], ⟨fun a z => g.w0.1 a (.inl z), g.w0.2⟩, fun j d' q => ?_, fun j => ?_, fun j k a m m' => ?_, fun j a m => ?_, fun j a m => ?_⟩
  · rw [List.getElem?_set] at q ⊢
    by_cases e : i = j
    · subst e
      rw [if_pos rfl] at q ⊢
      split at q
      · rename_i hl
        cases q
        rw [if_pos (by rw [g.len]; exact hl), if_pos rfl]
        exact ⟨v, rfl, rp.move (fun a z => .inl (wsub a z)) fun _ _ q _ _ => q⟩
      · cases q
    · rw [if_neg e] at q ⊢
      rw [if_neg (Ne.symm e)]
      obtain ⟨u, k1, k2⟩ := g.sl j d' q
      exact ⟨u, k1, k2.move (fun a z => .inl (wsub a z)) fun _ _ q _ _ => q⟩
  · split
    · exact nd
    · exact g.nd j
  · rcases sub m with ⟨e, m⟩ | ⟨e, m⟩ <;> rcases sub m' with ⟨e', m'⟩ | ⟨e', m'⟩
    · rw [e, e']
    · exact absurd (Or.inr m) (g.nw k a m')
    · exact absurd (Or.inr m') (g.nw j a m)
    · exact g.dj j k a m m'
  · rcases sub m with ⟨e, m⟩ | ⟨e, m⟩
    · exact nw a m
    · exact fun z => g.nw j a m (.inl z)
  · rcases sub m with ⟨e, m⟩ | ⟨e, m⟩
    · exact g.w0.1 a (.inr m)
    · exact g.mu j a m
theorem Fram.put {H H' : Hp} {fps fps' : Fps} {fpv : List Addr} {i : Nat} (fm : Fram H fps H' fps' fpv) : Fram H fps H' (fun j => if j = i then fpv else fps' j) [] :=
  ⟨@Fram.keep _ _ _ _ _ _ fm, fun j a m => by
    split at m
    · exact fm.oldv a m
    · exact fm.old j a m, fun _ m => (nomatch m), fm.back, fm.tb⟩
theorem Keep.set {ks : Nat → Bool} {σ : St} {i : Nat} {x : Option V} (h : ks i = false) : Keep ks σ (σ.set i x) := ⟨by rw [List.length_set], fun j m => by
  rw [List.getElem?_set, if_neg]
  intro z
  subst z
  rw [h] at m; cases m⟩
theorem setCon {te : TE} {i : Nat} (hk : ks i = false) (a2 : ∀ W0 H σ r fps, Good cm W0 H σ r fps → ∀ Q, Post (f r) (QX cm W0 H σ fps Q) (XX cm E W0 H σ fps) → te σ H Q) : SCon cm E ks (tAsg te (gName i)) (sSet i f) := fun W0 H σ r fps g D hp => by
  refine a2 W0 H σ r fps g _ ?_
  unfold sSet at hp
  split at hp
  · rename_i p hr
    rw [hr]
    split at hp
    · exact fun v H' fps' fpv g' rp nd nw fm => hp _ H' _ (g'.put rp nd nw i) fm.put (Keep.set hk)
    · exact hp.elim
  · rename_i x r' hr
    rw [hr]
    exact fun H' fps' dx g' fm xr => hp σ H' fps' dx g' fm (Keep.refl ks σ) xr
  · exact hp.elim
theorem ds_set (i : Nat) {x : Str} {pos' : Pos} (hN : X.N.Nodup) (h1 : XE X cm E e f) (hk : ks i = false := by rfl) (hi : X.N[i]? = some x := by rfl) (hx : Loc X.env.scope x := by first | exact Or.inl rfl | exact Or.inr rfl) (hs : swapsWith e (some (.Name x pos')) pos.line X.env = pure false := by rfl) (hf : X.fn x = true ∨ X.env.scope.names.lookup x = some .local := by first | exact .inl rfl | exact .inr rfl) :
    DS X cm E ks (.Assign [.Name x pos'] e pos) (sSet i f) := by
  obtain ⟨t, a1, a2⟩ := h1.ex
  exact ⟨_, ps_set hN hi hx a1 hs hf, setCon hk a2⟩
theorem ds_if {c : Expr} {a b : List Stmt} {t : Env → Out (Bool × Env)} (hc : XT X cm E c t) (ha : DSs X cm E ks a g) (hb : DSs X cm E ks b h) : DS X cm E ks (.If c a b pos) (sIf t g h) := by
  obtain ⟨tt, t1, t2⟩ := hc.ex
  obtain ⟨ta, a1, a2⟩ := ha.ex
  obtain ⟨tb, b1, b2⟩ := hb.ex
  refine ⟨_, ps_if t1 a1 b1, fun W0 H σ r fps gd D hp => t2 W0 H σ r fps gd _ ?_⟩
  unfold sIf at hp
  split at hp
  · rename_i p hr
    rw [hr]
    intro H' fps' g' fm
    obtain ⟨b, r'⟩ := p
    cases b with
    | true => exact a2 W0 H' σ r' fps' g' D (SPost.later fm (Keep.refl ks σ) hp)
    | false => exact b2 W0 H' σ r' fps' g' D (SPost.later fm (Keep.refl ks σ) hp)
  · rename_i x r' hr
    rw [hr]
    exact fun H' fps' dx g' fm xr => hp σ H' fps' dx g' fm (Keep.refl ks σ) xr
  · exact hp.elim
structure XG (X : Cx) (cm : Cm) (ks : Nat → Bool) (tg : Expr) (g : D → Env → Out Env) : Prop where
  ex : ∃ t, PG X tg t ∧ ∀ W0 H σ r fps v d, Good cm W0 H σ r fps → Rep cm (Wof W0 fps) H v d [] → ∀ Q : St → Hp → Prop, Post (g d r) (fun r' => ∀ σ' fps', Good cm W0 H σ' r' fps' → (∀ j a, a ∈ fps' j → a ∈ fps j) → Keep ks σ σ' → Q σ' H) noX → t v σ H Q
structure XGs (X : Cx) (cm : Cm) (ks : Nat → Bool) (tgs : List Expr) (g : List D → Env → Out Env) : Prop where
  ex : ∃ t, PGs X tgs t ∧ ∀ W0 H σ r fps vs ds, Good cm W0 H σ r fps → Reps cm (Wof W0 fps) H vs ds [] → ∀ Q : St → Hp → Prop, Post (g ds r) (fun r' => ∀ σ' fps', Good cm W0 H σ' r' fps' → (∀ j a, a ∈ fps' j → a ∈ fps j) → Keep ks σ σ' → Q σ' H) noX → t vs σ H Q
theorem xg_name (i : Nat) {x : Str} (hN : X.N.Nodup) (hk : ks i = false := by rfl) (hi : X.N[i]? = some x := by rfl) (hx : Loc X.env.scope x := by first | exact Or.inl rfl | exact Or.inr rfl) (hf : X.fn x = true ∨ X.env.scope.names.lookup x = some .local := by first | exact .inl rfl | exact .inr rfl) : XG X cm ks (.Name x pos) (sN i) := by
  refine ⟨_, pg_name hN hi hx hf, fun W0 H σ r fps v d gd rp Q hp => ?_⟩
  unfold sN at hp
  split at hp
  · refine hp _ _ (Good.put (fpv := []) (by rw [wp_nil]; exact gd) (by rw [wp_nil]; exact rp) List.nodup_nil (fun _ m => (nomatch m)) i) (fun j a m => ?_) (Keep.set hk)
    split at m
    · cases m
    · exact m
  · exact hp.elim
theorem xgs_nil : XGs X cm ks [] sNil := by
  refine ⟨_, pgs_nil, fun W0 H σ r fps vs ds gd rp Q hp => ?_⟩
  unfold sNil at hp
  split at hp
  · cases rp
    exact ⟨rfl, hp σ fps gd (fun _ _ m => m) (Keep.refl ks σ)⟩
  · exact hp.elim
theorem xgs_cons {e : Expr} {es : List Expr} {g : D → Env → Out Env} {h : List D → Env → Out Env} (h1 : XG X cm ks e g) (h2 : XGs X cm ks es h) (hs : (assignEach (e :: es) X.env).map (·.2) = assign e X.env :: (assignEach es X.env).map (·.2) := by rfl) : XGs X cm ks (e :: es) (sCons g h) := by
  obtain ⟨t, a1, a2⟩ := h1.ex
  obtain ⟨u, b1, b2⟩ := h2.ex
  refine ⟨_, pgs_cons a1 b1 hs, fun W0 H σ r fps vs ds gd rp Q hp => ?_⟩
  unfold sCons at hp
  split at hp
  · generalize hf : ([] : List Addr) = fp at rp
    cases rp with
    | cons k1 k2 =>
      obtain ⟨rfl, rfl⟩ := app_nil hf
      refine ⟨_, _, rfl, a2 W0 H σ r fps _ _ gd k1 _ (hp.bind.mono (fun r1 q σ1 f1 g1 s1 w1 => ?_) fun _ _ z => z)⟩
      exact b2 W0 H σ1 r1 f1 _ _ g1 (k2.move (fun a z => .inl (z.imp id fun ⟨j, m⟩ => ⟨j, s1 j a m⟩)) fun _ _ q _ _ => q) _ (q.mono (fun r2 q2 σ2 f2 g2 s2 w2 => q2 σ2 f2 g2 (fun j a m => s1 j a (s2 j a m)) (w1.trans w2)) fun _ _ z => z)
  · exact hp.elim
theorem xg_tup {es : List Expr} {k : Nat} {g : List D → Env → Out Env} {n : Nat} (hc : X.calm = true) (h : XGs X cm ks es g) (hn : (assignEach es X.env).length = n := by rfl) (hst : (assignEach es X.env).findIdx? (·.1) = none := by rfl) : XG X cm ks (.Tuple es k pos) (sT n g) := by
  obtain ⟨t, a1, a2⟩ := h.ex
  refine ⟨_, pg_tup hc a1 hn hst, fun W0 H σ r fps v d gd rp Q hp => ?_⟩
  unfold sT at hp
  split at hp
  · split at hp
    · rename_i hl
      generalize hf : ([] : List Addr) = fp at rp
      cases rp with
      | tup h n rs =>
        subst hf
        exact ⟨_, _, rfl, SqT.of h, by rw [rs.len]; exact hl, a2 W0 H σ r fps _ _ gd rs Q hp⟩
    · exact hp.elim
  · exact hp.elim
def sAsg (f : FX) (g : D → Env → Out Env) : FS := fun r => match f r with
  | .ok p => match g (frz p.1) p.2 with
    | .ok r' => .nx r'
    | _ => .bad
  | .exn x r' => .exn x r'
  | .bad => .bad
theorem asgCon {te : TE} {tt : TG} {gg : D → Env → Out Env} (a2 : ∀ W0 H σ r fps, Good cm W0 H σ r fps → ∀ Q, Post (f r) (QX cm W0 H σ fps Q) (XX cm E W0 H σ fps) → te σ H Q)
    (b2 : ∀ W0 H σ r fps v d, Good cm W0 H σ r fps → Rep cm (Wof W0 fps) H v d [] → ∀ Q : St → Hp → Prop, Post (gg d r) (fun r' => ∀ σ' fps', Good cm W0 H σ' r' fps' → (∀ j a, a ∈ fps' j → a ∈ fps j) → Keep ks σ σ' → Q σ' H) noX → tt v σ H Q) : SCon cm E ks (tAsg te tt) (sAsg f gg) := fun W0 H σ r fps g D hp => by
  refine a2 W0 H σ r fps g _ ?_
  unfold sAsg at hp
  split at hp
  · rename_i p hr
    rw [hr]
    intro v H' fps' fpv g' rp nd nw fm
    split at hp
    · rename_i r' hr'
      refine b2 W0 H' σ p.2 fps' v (frz p.1) g'.drop (rp.open g' nw fun _ m => m) _ ?_
      rw [hr']
      exact fun σ' f' g'' s k => hp σ' H' f' g'' ⟨@Fram.keep _ _ _ _ _ _ fm, fun j a m => fm.old j a (s j a m), fun _ m => (nomatch m), fm.back, fm.tb⟩ k
    · exact hp.elim
  · rename_i x r' hr
    rw [hr]
    exact fun H' fps' dx g' fm xr => hp σ H' fps' dx g' fm (Keep.refl ks σ) xr
  · exact hp.elim
theorem ds_asg {gg : D → Env → Out Env} (h1 : XE X cm E e f) (h2 : XG X cm ks tg gg) (hs : swapsWithSole [tg] e pos.line X.env = pure false := by rfl) (hw : swappedStores [tg] e X.env = pure none := by rfl) (hq : (assignEach [tg] X.env).map (·.2) = [assign tg X.env] := by rfl) : DS X cm E ks (.Assign [tg] e pos) (sAsg f gg) := by
  obtain ⟨t, a1, a2⟩ := h1.ex
  obtain ⟨u, b1, b2⟩ := h2.ex
  exact ⟨_, ps_asg a1 b1 hs hw hq, asgCon a2 b2⟩
structure XI (X : Cx) (cm : Cm) (E : XS) (tg iter : Expr) (f : Env → Out (List D × Env)) : Prop where
  ex : ∃ wi, PI X tg iter wi ∧ ∀ W0 H σ r fps, Good cm W0 H σ r fps → ∀ R, Post (f r) (fun p => ∀ J H1 f1, Good cm W0 H1 σ p.2 f1 → Fram H fps H1 f1 [] → IsIt cm J p.1 (Wof W0 f1) H1 → R J H1) (XX cm E W0 H σ fps) → wi σ H R
def liftI (ns : List Nat) (f : Env → Out (List D)) : Env → Out (List D × Env) := fun r => match f (view ns r) with
  | .ok ds => .ok (ds, frzN ns r)
  | .exn x _ => .exn x (if shrs x.ds = true then frzN ns r else r)
  | .bad => .bad
theorem xi_lift {iter : Expr} {it : Env → Out (List D)} (ns : List Nat) (h : DI X cm E tg iter it) : XI X cm E tg iter (liftI ns it) := by
  obtain ⟨wi, h1, h2⟩ := h.ex
  refine ⟨wi, h1, fun W0 H σ r fps g R hp => h2 (Wr W0 fps ns) H σ (view ns r) (g.wr ns) (g.view ns) R ?_⟩
  unfold liftI at hp
  split at hp
  · rename_i ds hd
    rw [hd]
    intro J H1 e1 isit
    have hW : ∀ a, Wof W0 (fun j => if ns.contains j = true then [] else fps j) a → Wr W0 fps ns a := fun a z => by
      rcases z with z | ⟨j, m⟩
      · exact .inl z
      · dsimp only at m
        split at m
        · cases m
        · rename_i h
          exact .inr ⟨j, by simpa using h, m⟩
    have hW' : ∀ a, Wr W0 fps ns a → Wof W0 (fun j => if ns.contains j = true then [] else fps j) a := fun a z => by
      rcases z with z | ⟨j, hj, m⟩
      · exact .inl z
      · exact .inr ⟨j, by dsimp only; rw [if_neg (by rw [hj]; simp)]; exact m⟩
    refine hp J H1 _ ((g.frzN ns).ex e1) ⟨fun a o q _ t => e1.get a o q t, fun i a m => ?_, fun _ m => (nomatch m), fun _ q => e1.back q, e1.tb⟩ fun W' H2 i l => isit W' H2 i ⟨fun a z => (l.1 a z).imp (hW a) id, fun a o q n t => l.2.1 a o q (fun z => n (hW a z)) t, l.2.2⟩
    split at m
    · cases m
    · exact .inl ⟨i, m⟩
  · rename_i x r' hd
    rw [hd]
    exact XX.of_x g ns hp r'
  · exact hp.elim
def iXR1 (h : Env → Out (List D × Env)) : Env → Out (List D × Env) := fun r => (h r).bind fun p => match p.1 with
  | [.int j] => if -1000000 ≤ j ∧ j ≤ 1000000 then .ok (rng 0 j.toNat, p.2) else .bad
  | _ => .bad
def iXR2 (h : Env → Out (List D × Env)) : Env → Out (List D × Env) := fun r => (h r).bind fun p => match p.1 with
  | [.int i, .int j] => if (-1000000 ≤ i ∧ i ≤ 1000000) ∧ -1000000 ≤ j ∧ j ≤ 1000000 then .ok (rng i (j - i).toNat, p.2) else .bad
  | _ => .bad
theorem xi_range1 {a : Expr} {p : Pos} {fs : Env → Out (List D × Env)} (hg : Gl X "range") (hm : X.mg "range" = none) (ha : XA X cm E [a] fs) (hs : starEach [a] X.env = [(false, eval a X.env)] := by rfl) : XI X cm E tg (.Call (.Name "range" p) [a] [] pos) (iXR1 fs) := by
  obtain ⟨ta, h1, h2⟩ := ha.ex
  refine ⟨_, pi_range1 hg hm h1 hs, fun W0 H σ r fps g R hp => h2 W0 H σ r fps g _ (hp.bind.mono (fun p q vs H1 f1 p1 g1 k1 n1 w1 m1 => ?_) fun _ _ z => z)⟩
  obtain ⟨ds, r'⟩ := p
  dsimp only at q k1 g1
  split at q
  · split at q
    · rename_i hz
      cases k1 with
      | cons k1 k2 =>
        cases k1; cases k2
        exact ⟨_, rfl, by omega, by omega, q _ H1 f1 g1.drop (m1.addv fun _ m => (nomatch m)) isIt_rng⟩
    · exact q.elim
  · exact q.elim
theorem ds_for {iter : Expr} {body : List Stmt} {it : Env → Out (List D × Env)} {gg : D → Env → Out Env} (hp' : PassesOwn (model X.prog X.w) X.A X.env X.xe) (hc : X.calm = true) (hi : XI X cm E tg iter it) (hg : XG X cm ks tg gg) (hb : DSs X cm E ks body g) (hs : ∀ x, foldedSetIterable iter X.env x = pure x := by intro _; rfl) : DS X cm E ks (.For tg iter body [] pos) (sFor it gg g) := by
  obtain ⟨wi, i1, i2⟩ := hi.ex
  obtain ⟨gt, g1, g2⟩ := hg.ex
  obtain ⟨tb, b1, b2⟩ := hb.ex
  refine ⟨_, ps_for hp' hc i1 g1 b1 hs, fun W0 H σ r fps gd D hp => i2 W0 H σ r fps gd _ ?_⟩
  unfold sFor at hp
  split at hp
  · rename_i p hr
    rw [hr]
    obtain ⟨ds, r1⟩ := p
    intro J H1 f1 gd1 fm1 isit
    have hp : SPost cm E W0 H1 σ f1 ks D (forS gg g ds r1) := SPost.later fm1 (Keep.refl ks σ) hp
    refine ⟨fun i m σ' H' => m = ds.length - i ∧ i ≤ ds.length ∧ ∃ r' f', Good cm W0 H' σ' r' f' ∧ Fram H1 f1 H' f' [] ∧ Keep ks σ σ' ∧ SPost cm E W0 H1 σ f1 ks D (forS gg g (ds.drop i) r'), ⟨ds.length, by simp, Nat.zero_le _, r1, f1, gd1, Fram.refl _ _, Keep.refl ks σ, hp⟩, ?_⟩
    rintro i m σ' H' ⟨rfl, hi, r', f', g', fm', k', hq⟩
    have hl : Later cm (Wof W0 f1) H1 (Wof W0 f') H' := ⟨fun a z => by
      rcases z with z | ⟨j, z⟩
      · exact .inl (.inl z)
      · rcases fm'.old j a z with ⟨j, q⟩ | q
        · exact .inl (.inr ⟨j, q⟩)
        · exact .inr q, fun a o q n t => fm'.keep a o q (fun j m => n (.inr ⟨j, m⟩)) t, g'.wof⟩
    by_cases hlt : i < ds.length
    · right
      obtain ⟨d, hd⟩ : ∃ d, ds[i]? = some d := ⟨ds[i], by simp [hlt]⟩
      obtain ⟨go, yl⟩ := (isit _ H' i hl).1 d hd
      have hdrop : ds.drop i = d :: ds.drop (i + 1) := by
        rw [List.drop_eq_getElem_cons hlt]
        congr 1
        have := List.getElem?_eq_getElem hlt
        rw [this] at hd
        exact Option.some.inj hd
      rw [hdrop] at hq
      refine ⟨go, fun σ5 H5 => ∃ r' f', Good cm W0 H5 σ5 r' f' ∧ Fram H1 f1 H5 f' [] ∧ Keep ks σ σ5 ∧ SPost cm E W0 H1 σ f1 ks D (forS gg g (ds.drop (i + 1)) r'), fun σ5 H5 h5 => ⟨ds.length - (i + 1), by omega, rfl, hlt, h5⟩, fun x H3 y => ?_⟩
      obtain ⟨e3, r3⟩ := yl x H3 y
      have fm3 : Fram H1 f1 H3 f' [] := fm'.trans (Fram.of_ex e3 fun _ m => (nomatch m))
      refine g2 W0 H3 σ' r' f' x d (g'.ex e3) r3 _ ?_
      unfold forS at hq
      split at hq
      · rename_i r2 hr2
        rw [hr2]
        intro σ2 f2 gd2 sub2 k2
        have fm2 : Fram H1 f1 H3 f2 [] := ⟨@Fram.keep _ _ _ _ _ _ fm3, fun j a m => fm3.old j a (sub2 j a m), fun _ m => (nomatch m), fm3.back, fm3.tb⟩
        refine b2 W0 H3 σ2 r2 f2 gd2 _ ?_
        cases hb : g r2 with
        | nx r4 =>
          rw [hb] at hq
          exact fun σ4 H4 f4 g4 fm4 k4 => ⟨r4, f4, g4, fm2.trans fm4, (k'.trans k2).trans k4, hq⟩
        | ct r4 =>
          rw [hb] at hq
          exact fun σ4 H4 f4 g4 fm4 k4 => ⟨r4, f4, g4, fm2.trans fm4, (k'.trans k2).trans k4, hq⟩
        | bk r4 =>
          rw [hb] at hq
          exact fun σ4 H4 f4 g4 fm4 k4 => hq σ4 H4 f4 g4 (fm2.trans fm4) ((k'.trans k2).trans k4)
        | rt d4 r4 =>
          rw [hb] at hq
          exact fun v σ4 H4 f4 p4 g4 rp nd nw fm4 k4 => hq v σ4 H4 f4 p4 g4 rp nd nw (fm2.trans fm4) ((k'.trans k2).trans k4)
        | exn x4 r4 =>
          rw [hb] at hq
          exact fun σ4 H4 f4 dx g4 fm4 k4 xr => hq σ4 H4 f4 dx g4 (fm2.trans fm4) ((k'.trans k2).trans k4) xr
        | bad => rw [hb] at hq; exact hq.elim
      · exact hq.elim
    · left
      have e : i = ds.length := by omega
      subst e
      refine ⟨(isit _ H' _ hl).2 (by simp), ?_⟩
      rw [List.drop_length] at hq
      exact hq σ' H' f' g' fm' k'
  · rename_i x r' hr
    rw [hr]
    exact fun H' fps' dx g' fm xr => hp σ H' fps' dx g' fm (Keep.refl ks σ) xr
  · exact hp.elim
end
end DL

namespace DL
variable [Tbs]
open PySem L2
open PyProof.Rows (envOfC)

structure RoomG (k : Nat) (A : Around) : Prop where
  rm : Room k A
  gd : A.guards = some []
theorem RoomG.mono {j k : Nat} {A : Around} (r : RoomG k A) (h : j ≤ k) : RoomG j A := ⟨r.rm.mono h, r.gd⟩
theorem RoomG.units {k : Nat} {A : Around} (r : RoomG k A) : A.units + 64 < cLine := r.rm.units
theorem RoomG.down {k : Nat} {A : Around} (r : RoomG (k + 1) A) (e : PySem.Env) : RoomG k (A.deeper e) := ⟨r.rm.deeper e, r.gd⟩
structure FnG (P : Program) (w : World) (K : PySem.W.Frag) (mg : Str → Option Value) (base : Heap) (k : Nat) (f : Addr) (fd : FuncData) (ps : List Str) (sp : Sp) : Prop where
  len : ∀ vs H Q E, sp vs H Q E → vs.length = ps.length
  go : ∀ (A : Around) (outer : List PySem.Env) (s : Shared) (H : Hp) (args : Args) (us : List Value) (vs : List V) (Q : VK) (E : XK), RoomG k A → Env0 P w K mg base A outer s H → BindsTo s fd args (ps.zip us) → Vals vs us → sp vs H Q E →
    codeAny (model P w) A (.call (.ref f) args) (CR (L2.CX P w) outer P w H s Q E) s
theorem FnG.mono {P : Program} {w : World} {K : PySem.W.Frag} {mg : Str → Option Value} {base : Heap} {j k : Nat} {f : Addr} {fd : FuncData} {ps : List Str} {sp : Sp} (F : FnG P w K mg base j f fd ps sp) (h : j ≤ k) : FnG P w K mg base k f fd ps sp :=
  ⟨F.len, fun A o s H ar us vs Q E hr => F.go A o s H ar us vs Q E (hr.mono h)⟩
theorem FnG.imp {P : Program} {w : World} {K : PySem.W.Frag} {mg : Str → Option Value} {base : Heap} {k : Nat} {f : Addr} {fd : FuncData} {ps : List Str} {sp sp' : Sp} (F : FnG P w K mg base k f fd ps sp) (h : ∀ vs H Q E, sp' vs H Q E → sp vs H Q E) : FnG P w K mg base k f fd ps sp' :=
  ⟨fun vs H Q E z => F.len vs H Q E (h vs H Q E z), fun A o s H ar us vs Q E hr e0 hb hv z => F.go A o s H ar us vs Q E hr e0 hb hv (h vs H Q E z)⟩
abbrev cxB (P : Program) (w : World) (K : PySem.W.Frag) (mg : Str → Option Value) (base : Heap) (N : List Str) (qual : Str) (sc : Scope) (f : Addr) (cdv : Value) (A : Around) (outer : List PySem.Env) (s : Shared) (H : Hp) (E : XK) : Cx := cxOf (L2.CX P w) P w K mg base N qual sc f cdv A outer s H E
structure FunE (K : PySem.W.Frag) (x qual : Str) (st : Stmt) (dvs : List V) (f : Addr) (fd : FuncData) : Prop where
  ex : ∃ (oc : Value) (od : Option Addr) (dV kV doc pm : Value) (an : Option Addr) (cdv ct : Value) (osl : Array (Option Value)),
    fd = PySem.W.fnOf x qual (defArgs st) (defBody st) (defScope st) dV kV doc pm an cdv ct ∧ K.lookup f = some ⟨oc, od, .func fd, osl⟩ ∧ PySem.W.codeIn K cdv qual = true ∧ DflV K dV dvs
  kp : PySem.W.keepIn K (.ref f) = true
theorem toE {K : PySem.W.Frag} {x qual : Str} {st : Stmt} {f : Addr} {fd : FuncData} (F : Fun K x qual st f fd) : FunE K x qual st [] f fd := by
  obtain ⟨oc, od, kV, doc, pm, an, cdv, ct, osl, rfl, lk, hcd⟩ := F.ex
  exact ⟨⟨oc, od, .none, kV, doc, pm, an, cdv, ct, osl, rfl, lk, hcd, .inl ⟨rfl, rfl⟩⟩, F.kp⟩
theorem FunE.all {K : PySem.W.Frag} {x qual : Str} {st : Stmt} {dvs : List V} {f : Addr} {fd : FuncData} {ps : List Str} (F : FunE K x qual st dvs f fd)
    (h : ∀ (dV kV doc pm : Value) (an : Option Addr) (cdv ct : Value) (us : List Value), us.length = ps.length → bindArgs (PySem.W.fnOf x qual (defArgs st) (defBody st) (defScope st) dV kV doc pm an cdv ct) ⟨us, []⟩ = pure (ps.zip us)) : Binds K fd ps [] := by
  obtain ⟨oc, od, dV, kV, doc, pm, an, cdv, ct, osl, rfl, lk, hcd, _⟩ := F.ex
  exact .all (h dV kV doc pm an cdv ct)
theorem FunE.some {K : PySem.W.Frag} {x qual : Str} {st : Stmt} {dvs : List V} {f : Addr} {fd : FuncData} {ps : List Str} (F : FunE K x qual st dvs f fd) (n j : Nat) (hd : dvs ≠ []) (hn : n + (dvs.length - j) = ps.length)
    (h : ∀ (T : Addr) (kV doc pm : Value) (an : Option Addr) (cdv ct : Value) (us its : List Value), us.length = n → its.length = dvs.length →
      ∃ k, bindArgs (PySem.W.fnOf x qual (defArgs st) (defBody st) (defScope st) (.ref T) kV doc pm an cdv ct) ⟨us, []⟩ = seqItems? (.ref T) >>= k ∧ k (some its.toArray) = pure (ps.zip (us ++ its.drop j))) : ∃ ds, Vals (dvs.drop j) ds ∧ Binds K fd ps ds := by
  obtain ⟨oc, od, dV, kV, doc, pm, an, cdv, ct, osl, rfl, lk, hcd, hD⟩ := F.ex
  rcases hD with ⟨e, _⟩ | ⟨_, T, o, its, m, rfl, lT, oT, rT⟩
  · exact absurd e hd
  · refine ⟨its.drop j, rT.drop j, fun s us X hlen => ?_⟩
    have l1 : its.length = dvs.length := rT.length.symm
    have l2 : us.length = n := by
      rw [List.length_append, List.length_drop, l1] at hlen
      omega
    obtain ⟨k, e1, e2⟩ := h T kV doc pm an cdv ct us its l2 l1
    refine BindsTo.of_looks fun M => ?_
    rw [e1]
    exact looks_items X lT oT (.of_pure e2)
theorem fnE_ofc {P : Program} {w : World} {K : PySem.W.Frag} {mg : Str → Option Value} {base : Heap} {x qual : Str} {st : Stmt} {dvs : List V} {f : Addr} {fd : FuncData} {N ps : List Str} {k : Nat} {sp : Sp} (F : FunE K x qual st dvs f fd) (S : FnScope N ps (defScope st)) (len : ∀ vs H Q E, sp vs H Q E → vs.length = ps.length)
    (hb : ∀ (cdv : Value), fd.code = cdv → ∀ (A : Around) (outer : List PySem.Env) (s : Shared) (H : Hp) (vs : List V) (Q : VK) (E : XK), RoomG k (A.deeper (envOfC qual (defScope st) s.heap.objs.size f cdv)) → sp vs H Q E →
      ∃ t, PSs (cxB P w K mg base N qual (defScope st) f cdv A outer s H E) (defBody st) t ∧ t { nx := fun _ H' => Q .non H', rt := Q } (L2.start N vs) H) : FnG P w K mg base (k + 1) f fd ps sp := by
  obtain ⟨oc, od, dV, kV, doc, pm, an, cdv, ct, osl, rfl, lk, hcd, _⟩ := F.ex
  refine ⟨len, fun A o s H ar us vs Q E hr e0 bd rv z => ?_⟩
  have keepB : ∀ a u, base.get? a = some u → s.heap.get? a = some u := fun a u h => (e0.bs a u h).1
  have kin := e0.mod.kin.keeps keepB
  have nol := e0.mod.nolimit.keeps keepB
  have par : ∀ y ∈ ps.zip us, (defScope st).names.lookup y.1 = some .local ∨ ((defScope st).names.lookup y.1 = some .cell ∧ ((cellsFrom (s.heap.objs.size + 1) (defScope st).names []).lookup y.1).isSome = true) := by
    rintro ⟨n, v⟩ hy
    exact (S.par n (List.of_mem_zip hy).1).imp id fun q => ⟨q, PySem.W.cellsFrom_some _ _ _ (.inl q)⟩
  apply codeAny_call_function hr.rm.depth (kin _ _ lk) rfl S.co S.gen rfl (PySem.W.codeRec_of kin hcd)
  apply bd
  apply wpAny_newFunctionEnv_cells S.kind par
  rintro env rfl s1 x
  refine ⟨nol.keeps x.toInCall.keep, codeAny_func ?_⟩
  obtain ⟨t, ht, q⟩ := hb cdv rfl A o s H vs Q E (hr.down _) z
  have I := inv_start (CX := L2.CX P w) (E := E) S hr.rm.hd e0 (len _ _ _ _ z) rv x
  refine wpAny_mono (ht.run [] s1 _ H _ I q) ?_ fun _ _ h => h
  intro fl s' hs
  match fl, hs with
  | .ret u, ⟨v, σ', H', J, rv, q⟩ => exact ⟨v, H', J.os, J.bare, J.base, J.hok, rv, q⟩
  | .next, ⟨σ', H', J, q⟩ => exact ⟨V.non, H', J.os, J.bare, J.base, J.hok, rfl, q⟩
  | .brk, ⟨_, _, _, q⟩ => exact q.elim
  | .cont, ⟨_, _, _, q⟩ => exact q.elim
theorem fnE_of {P : Program} {w : World} {K : PySem.W.Frag} {mg : Str → Option Value} {base : Heap} {x qual : Str} {st : Stmt} {dvs : List V} {f : Addr} {fd : FuncData} {N ps : List Str} {k : Nat} {sp : Sp} (F : FunE K x qual st dvs f fd) (S : FnScope N ps (defScope st)) (len : ∀ vs H Q E, sp vs H Q E → vs.length = ps.length)
    (hb : ∀ (cdv : Value) (A : Around) (outer : List PySem.Env) (s : Shared) (H : Hp) (vs : List V) (Q : VK) (E : XK), RoomG k (A.deeper (envOfC qual (defScope st) s.heap.objs.size f cdv)) → sp vs H Q E →
      ∃ t, PSs (cxB P w K mg base N qual (defScope st) f cdv A outer s H E) (defBody st) t ∧ t { nx := fun _ H' => Q .non H', rt := Q } (L2.start N vs) H) : FnG P w K mg base (k + 1) f fd ps sp := fnE_ofc F S len fun cdv _ => hb cdv
abbrev PassG (X : Cx) (E : XS) : Prop := ∀ σ, PassesAt (L2.CX X.prog X.w) X σ (E σ)
theorem pass_none {X : Cx} : PassG X E0' := fun σ _ _ _ _ _ _ h => by
  obtain ⟨_, _, _, _, _, _, _, _, _, _, _, _, z⟩ := h
  exact z.elim
theorem run_fnG {X : Cx} {k : Nat} {f : Addr} {fd : FuncData} {ps : List Str} {sp : Sp} {E : XS} {dvs : List V} {ds : List Value} {pins : List (Addr × Obj)} {σ : St} {H : Hp} {s : Shared} {Q : VK} {us : List Value} {vs : List V} (F : FnG X.prog X.w X.K X.mg X.base k f fd ps sp) (hr : RoomG k X.A) (hb : Binds X.K fd ps ds) (hd : Vals dvs ds) (hx : PassG X E)
    (I : Inv X pins σ H s) (r : Vals vs us) (h : sp (vs ++ dvs) H Q (E σ)) : wpAny (model X.prog X.w) X.A (call (.ref f) us) (EP X pins σ Q) X.xe s := by
  have r2 := r.append hd
  have hl : (us ++ ds).length = ps.length := r2.length.symm.trans (F.len _ _ _ _ h)
  apply wpAny_call
  apply codeAny_mono (F.go X.A X.stack s H ⟨us, []⟩ (us ++ ds) (vs ++ dvs) Q (E σ) hr I.env0 (hb s us I.kIn hl) r2 h)
  intro res s' hq
  match res, hq with
  | .error e, hq => exact hx σ pins H s e s' I hq
  | .ok (.ret u), hq => exact I.after hq
def tCallG (sp : Sp) (dvs : List V) (E : XS) (t : TA) : TE := fun σ H Q => t σ H fun vs H1 => sp (vs ++ dvs) H1 Q (E σ)
theorem pe_callG {X : Cx} {k : Nat} {f : Addr} {fd : FuncData} {ps : List Str} {sp : Sp} {E : XS} {dvs : List V} {ds : List Value} {x : Str} {p pos : Pos} {e : Expr} {es : List Expr} {t : TA} (F : FnG X.prog X.w X.K X.mg X.base k f fd ps sp) (hr : RoomG k X.A) (hg : Gl X x) (hm : X.mg x = some (.ref f)) (hk : PySem.W.keepIn X.K (.ref f) = true) (hb : Binds X.K fd ps ds) (hd : Vals dvs ds) (hx : PassG X E)
    (ha : PA X (e :: es) t) (hdb : (x == ("__debug__" : Str)) = false := by decide) (he : starEach (e :: es) X.env = (false, eval e X.env) :: starEach es X.env := by rfl) (hpl : (backTo pos (starEach es X.env)).any (·.1) = false := by rfl) :
    PE X (.Call (.Name x p) (e :: es) [] pos) (tCallG sp dvs E t) := ⟨fun pins s σ H Q I h => wpAny_Call_Name_kw (ld_glob I hg hm (PySem.W.callWith_K (h₀ := X.base) I.ok.mod.kin hk (thn (ha.run pos pins s σ H _ I h) fun us s1 z => by
      obtain ⟨vs, H1, I1, r, q⟩ := z
      exact ⟨I1.kIn, run_fnG F hr hb hd hx I1 r q⟩) he hpl) hdb)⟩
def runP (n N : Nat) (g : FS) (ds : List D) : Out D := if ds.length = n then (match g (ds.map some ++ List.replicate (N - n) none) with
  | .nx _ => .ok .non
  | .rt d _ => .ok d
  | .exn x _ => .exn x []
  | _ => .bad) else .bad
def spP (cm : Cm) (n : Nat) (m : List D → Out D) : Sp := fun vs H Q E => ∃ W ds, WOk cm W H ∧ Reps cm W H vs ds [] ∧ ds.length = n ∧ Post (m ds) (QP cm W true H Q) (XPost cm E W H)
theorem good_start {cm : Cm} {W : Addr → Prop} {H : Hp} {vs : List V} {ds : List D} (N : List Str) (w : WOk cm W H) (rp : Reps cm W H vs ds []) : Good cm W H (L2.start N vs) (ds.map some ++ List.replicate (N.length - ds.length) none) (fun _ => []) := by
  have hl := rp.len
  refine ⟨by unfold L2.start; simp [hl], w, fun i d h => ?_, fun _ => List.nodup_nil, fun _ _ _ m => (nomatch m), fun _ _ m => (nomatch m), fun _ _ m => (nomatch m)⟩
  rw [List.getElem?_append] at h
  unfold L2.start
  rw [List.getElem?_append]
  split at h
  · rename_i hi
    rw [List.length_map] at hi
    rw [List.getElem?_map] at h
    obtain ⟨d', h1, h2⟩ := Option.map_eq_some_iff.mp h
    cases h2
    obtain ⟨v, h3, h4⟩ := rp.at rfl h1
    refine ⟨v, ?_, h4.move (fun a z => .inl (z.resolve_right fun ⟨_, m⟩ => (nomatch m))) fun _ _ q _ _ => q⟩
    rw [if_pos (by rw [List.length_map, hl]; exact hi), List.getElem?_map, h3]
    rfl
  · rw [List.getElem?_replicate] at h
    split at h <;> cases h
theorem ex_of_fram {H H' : Hp} {fps' : Fps} {fpv : List Addr} (fm : Fram H (fun _ => []) H' fps' fpv) : Ex H H' := ⟨fun a o h t => fm.keep a o h (fun _ m => (nomatch m)) t, fm.back, fm.tb⟩
theorem fn_pureE {P : Program} {w : World} {K : PySem.W.Frag} {mg : Str → Option Value} {base : Heap} {cm : Cm} {x qual : Str} {st : Stmt} {dvs : List V} {f : Addr} {fd : FuncData} {N ps : List Str} {k : Nat} {g : FS} (F : FunE K x qual st dvs f fd) (S : FnScope N ps (defScope st))
    (hb : ∀ (cdv : Value) (A : Around) (outer : List PySem.Env) (s : Shared) (H : Hp) (E : XK), RoomG k (A.deeper (envOfC qual (defScope st) s.heap.objs.size f cdv)) → DSs (cxB P w K mg base N qual (defScope st) f cdv A outer s H E) cm (fun _ => E) k0 (defBody st) g) :
    FnG P w K mg base (k + 1) f fd ps (spP cm ps.length (runP ps.length N.length g)) := by
  refine fnE_of F S (fun vs H Q E h => ?_) (fun cdv A outer s H vs Q E hr h => ?_)
  · obtain ⟨W, ds, _, rp, hl, _⟩ := h
    rw [rp.len, hl]
  · obtain ⟨W, ds, w, rp, hl, hp⟩ := h
    obtain ⟨ts, h1, h2⟩ := (hb cdv A outer s H E hr).ex
    refine ⟨ts, h1, h2 W H (L2.start N vs) _ _ (good_start N w rp) _ ?_⟩
    unfold runP at hp
    rw [if_pos hl] at hp
    rw [hl]
    split at hp
    · rename_i r' hr'
      rw [hr']
      intro σ' H' fps' g' fm k'
      exact hp .non H' [] (ex_of_fram fm) .non FpN.nil
    · rename_i d r' hr'
      rw [hr']
      intro v σ' H' fps' fpv g' rp' nd nw fm k'
      refine hp v H' fpv (ex_of_fram fm) (rp'.move (fun a z => .inl (.inl z)) fun _ _ q _ _ => q) ⟨nd, fun a m => ?_⟩
      rcases fm.oldv a m with ⟨_, m⟩ | q
      · cases m
      · exact q
    · rename_i x r' hr'
      rw [hr']
      exact fun σ' H' fps' dx g' fm k' xr => hp H' dx (ex_of_fram fm) (xr.weak fun a z => .inl z)
    · exact hp.elim

theorem fn_pure {P : Program} {w : World} {K : PySem.W.Frag} {mg : Str → Option Value} {base : Heap} {cm : Cm} {x qual : Str} {st : Stmt} {f : Addr} {fd : FuncData} {N ps : List Str} {k : Nat} {g : FS} (F : Fun K x qual st f fd) (S : FnScope N ps (defScope st))
    (hb : ∀ (cdv : Value) (A : Around) (outer : List PySem.Env) (s : Shared) (H : Hp) (E : XK), RoomG k (A.deeper (envOfC qual (defScope st) s.heap.objs.size f cdv)) → DSs (cxB P w K mg base N qual (defScope st) f cdv A outer s H E) cm (fun _ => E) k0 (defBody st) g) :
    FnG P w K mg base (k + 1) f fd ps (spP cm ps.length (runP ps.length N.length g)) := fn_pureE (toE F) S hb

section
variable {X : Cx} {cm : Cm} {E : XS} {b : Bool} {pos p : Pos} {ks : Nat → Bool} {a c e : Expr} {es : List Expr} {x : Str} {k n : Nat} {f : Addr} {fd : FuncData} {ps : List Str} {m : List D → Out D}
theorem de_call {fs : Env → Out (List D)} (Fo : FnG X.prog X.w X.K X.mg X.base k f fd ps (spP cm n m)) (hr : RoomG k X.A) (hg : Gl X x) (hm : X.mg x = some (.ref f)) (hk : PySem.W.keepIn X.K (.ref f) = true) (hb : Binds X.K fd ps []) (hx : PassG X E) (ha : DA X cm E false (e :: es) fs) (hn : ps.length = n := by rfl) (hdb : (x == ("__debug__" : Str)) = false := by decide)
    (he : starEach (e :: es) X.env = (false, eval e X.env) :: starEach es X.env := by rfl) (hpl : (backTo pos (starEach es X.env)).any (·.1) = false := by rfl) : DE X cm E true (.Call (.Name x p) (e :: es) [] pos) (cA (fun ds => if ds.length = n then m ds else .bad) fs) := by
  obtain ⟨ta, h1, h2⟩ := ha.ex
  refine ⟨_, pe_callG Fo hr hg hm hk hb .nil hx h1 hdb he hpl, fun W H σ env w fr Q hp => h2 W H σ env w fr _ (hp.bind.mono (fun ds q vs H1 fp e1 r1 f1 => ?_) fun _ _ z => z)⟩
  split at q
  · rename_i hl
    cases (show fp = [] from f1)
    refine ⟨W, ds, w.ex e1, by rw [List.append_nil]; exact r1.ofP, hl, q.mono (fun d q3 z H3 fp3 e3 r3 f3 => q3 z H3 fp3 (e1.trans e3) r3 (f3.ex e1)) fun x rr z => XPost.ex e1 z⟩
  · exact q.elim
def xC (m : List D → Out D) (h : Env → Out (List D × Env)) : FX := fun r => (h r).bind fun p => match m (frzs p.1) with
  | .ok d => .ok (d, p.2)
  | .exn x _ => .exn x p.2
  | .bad => .bad
abbrev fps0 (fp : List Addr) : Fps := fun j => if j = 0 then fp else []
abbrev QIO (cm : Cm) (W0 : Addr → Prop) (H : Hp) (fp : List Addr) (v0 : V) (Q : VK) : D × D → Prop := fun p => ∀ v H' fp' fpv, Rep cm (Wp W0 (fp' ++ fpv)) H' v0 p.2 fp' → Rep cm (Wp W0 (fp' ++ fpv)) H' v p.1 fpv → (fp' ++ fpv).Nodup → (∀ a ∈ fp' ++ fpv, ¬ W0 a) → Fram H (fps0 fp) H' (fps0 fp') fpv → Q v H'
abbrev XIO (cm : Cm) (W0 : Addr → Prop) (H : Hp) (fp : List Addr) (v0 : V) (E : XK) : Xc → Env → Prop := fun x r => ∀ d1 H' fp' dx, r = [some d1] → Rep cm (Wp W0 fp') H' v0 d1 fp' → fp'.Nodup → (∀ a ∈ fp', ¬ W0 a) → Fram H (fps0 fp) H' (fps0 fp') [] → XRep cm (Wp W0 fp') H' x dx → E (.ref (cm.cl x.cls)) dx H'
def spX (cm : Cm) (n : Nat) (m : List D → Out (D × D)) : Sp := fun vs H Q E => ∃ W0 v0 d0 fp vs' ds', vs = v0 :: vs' ∧ WOk cm (Wp W0 fp) H ∧ fp.Nodup ∧ (∀ a ∈ fp, ¬ W0 a) ∧ Rep cm (Wp W0 fp) H v0 d0 fp ∧ Reps cm (Wp W0 fp) H vs' ds' [] ∧ ds'.length + 1 = n ∧ Post (m (d0 :: ds')) (QIO cm W0 H fp v0 Q) (XIO cm W0 H fp v0 E)
def runX (n N : Nat) (g : FS) (ds : List D) : Out (D × D) := if ds.length = n then (match g (ds.map some ++ List.replicate (N - n) none) with
  | .nx r => match r[0]? with
    | some (some d0) => .ok (.non, d0)
    | _ => .bad
  | .rt d r => match r[0]? with
    | some (some d0) => .ok (d, d0)
    | _ => .bad
  | .exn x r => match r[0]? with
    | some (some d0) => .exn x [some d0]
    | _ => .bad
  | _ => .bad) else .bad
theorem fn_ioE {P : Program} {w : World} {K : PySem.W.Frag} {mg : Str → Option Value} {base : Heap} {cm : Cm} {x qual : Str} {st : Stmt} {dvs : List V} {f : Addr} {fd : FuncData} {N ps : List Str} {k : Nat} {g : FS} (F : FunE K x qual st dvs f fd) (S : FnScope N ps (defScope st))
    (hb : ∀ (cdv : Value) (A : Around) (outer : List PySem.Env) (s : Shared) (H : Hp) (E : XK), RoomG k (A.deeper (envOfC qual (defScope st) s.heap.objs.size f cdv)) → DSs (cxB P w K mg base N qual (defScope st) f cdv A outer s H E) cm (fun _ => E) k1 (defBody st) g) :
    FnG P w K mg base (k + 1) f fd ps (spX cm ps.length (runX ps.length N.length g)) := by
  refine fnE_of F S (fun vs H Q E h => ?_) (fun cdv A outer s H vs Q E hr h => ?_)
  · obtain ⟨W0, v0, d0, fp, vs', ds', rfl, _, _, _, _, rp, hl, _⟩ := h
    rw [List.length_cons, rp.len, hl]
  · obtain ⟨W0, v0, d0, fp, vs', ds', rfl, w, nd, nw, rp0, rp, hl, hp⟩ := h
    obtain ⟨ts, h1, h2⟩ := (hb cdv A outer s H E hr).ex
    have hvl := rp.len
    have gd : Good cm W0 H (L2.start N (v0 :: vs')) ((d0 :: ds').map some ++ List.replicate (N.length - (d0 :: ds').length) none) (fps0 fp) := by
      have hw : ∀ a, Wof W0 (fps0 fp) a → Wp W0 fp a := fun a z => by
        rcases z with z | ⟨j, m⟩
        · exact .inl z
        · by_cases hj : j = 0
          · subst hj; exact .inr m
          · rw [show fps0 fp j = [] from if_neg hj] at m; cases m
      have f0 : ∀ {j a}, a ∈ fps0 fp j → j = 0 ∧ a ∈ fp := fun {j a} m => by
        by_cases hj : j = 0
        · subst hj; exact ⟨rfl, m⟩
        · rw [show fps0 fp j = [] from if_neg hj] at m; cases m
      refine ⟨by unfold L2.start; simp [hvl], ⟨fun a z => w.1 a (.inl z), w.2⟩, fun i d h => ?_, fun i => ?_, fun i j a m m' => by rw [(f0 m).1, (f0 m').1], fun i a m => nw a (f0 m).2, fun i a m => w.1 a (.inr (f0 m).2)⟩
      · cases i with
        | zero =>
          simp at h
          subst h
          exact ⟨v0, by simp [L2.start], rp0.move (fun a z => .inl (hw a z)) fun _ _ q _ _ => q⟩
        | succ i =>
          rw [List.map_cons, List.cons_append, List.getElem?_cons_succ, List.getElem?_append] at h
          unfold L2.start
          rw [List.map_cons, List.cons_append, List.getElem?_cons_succ, List.getElem?_append]
          split at h
          · rename_i hi
            rw [List.length_map] at hi
            rw [List.getElem?_map] at h
            obtain ⟨d', q1, q2⟩ := Option.map_eq_some_iff.mp h
            cases q2
            obtain ⟨v, q3, q4⟩ := rp.at rfl q1
            refine ⟨v, ?_, ?_⟩
            · rw [if_pos (by rw [List.length_map, hvl]; exact hi), List.getElem?_map, q3]
              rfl
            · rw [show fps0 fp (i + 1) = [] from rfl]
              exact q4.move (fun a z => .inl (hw a z)) fun _ _ q _ _ => q
          · rw [List.getElem?_replicate] at h
            split at h <;> cases h
      · by_cases hi : i = 0
        · subst hi; exact nd
        · rw [show fps0 fp i = [] from if_neg hi]; exact List.nodup_nil
    refine ⟨ts, h1, h2 W0 H (L2.start N (v0 :: vs')) _ (fps0 fp) gd _ ?_⟩
    unfold runX at hp
    have hl' : (d0 :: ds').length = ps.length := hl
    rw [if_pos hl'] at hp
    rw [hl']
    have h0 : (L2.start N (v0 :: vs'))[0]? = some (some v0) := by simp [L2.start]
    have fin : ∀ {v : V} {d d1 : D} {σ' : St} {H' : Hp} {fps' : Fps} {fpv : List Addr} {r' : Env}, Good cm (Wp W0 fpv) H' σ' r' fps' → Rep cm (Wof (Wp W0 fpv) fps') H' v d fpv → fpv.Nodup → (∀ a ∈ fpv, ¬ W0 a) → Fram H (fps0 fp) H' fps' fpv → Keep k1 (L2.start N (v0 :: vs')) σ' → r'[0]? = some (some d1) → QIO cm W0 H fp v0 Q (d, d1) → Q v H' := by
      intro v d d1 σ' H' fps' fpv r' g' rp' nd' nw' fm k' hr0 hq
      obtain ⟨u, k1, k2⟩ := g'.sl 0 d1 hr0
      rw [k'.2 0 rfl, h0] at k1
      cases k1
      have sub : ∀ a, Wp W0 (fps' 0 ++ fpv) a → Wof (Wp W0 fpv) fps' a := fun a z => by
        rcases z with z | z
        · exact .inl (.inl z)
        · rcases List.mem_append.mp z with z | z
          · exact .inr ⟨0, z⟩
          · exact .inl (.inr z)
      refine hq v H' (fps' 0) fpv (k2.move (fun a z => .inl (sub a z)) fun _ _ q _ _ => q) (rp'.move (fun a z => .inl (sub a z)) fun _ _ q _ _ => q) (List.nodup_append.mpr ⟨g'.nd 0, nd', fun a m c m' z => g'.nw 0 a m (.inr (z ▸ m'))⟩) (fun a m => ?_) ⟨@Fram.keep _ _ _ _ _ _ fm, fun j a m => ?_, fm.oldv, fm.back, fm.tb⟩
      · rcases List.mem_append.mp m with m | m
        · exact fun z => g'.nw 0 a m (.inl z)
        · exact nw' a m
      · by_cases hj : j = 0
        · subst hj; exact fm.old 0 a m
        · rw [show fps0 (fps' 0) j = [] from if_neg hj] at m; cases m
    split at hp
    · rename_i r' hr'
      rw [hr']
      split at hp
      · rename_i d1 hd1
        exact fun σ' H' fps' g' fm k' => fin (v := .non) (fpv := []) (by rw [wp_nil]; exact g') .non List.nodup_nil (fun _ m => (nomatch m)) fm k' hd1 hp
      · exact hp.elim
    · rename_i d r' hr'
      rw [hr']
      split at hp
      · rename_i d1 hd1
        exact fun v σ' H' fps' fpv g' rp' nd' nw' fm k' => fin g' rp' nd' nw' fm k' hd1 hp
      · exact hp.elim
    · rename_i x r' hr'
      rw [hr']
      split at hp
      · rename_i d1 hd1
        intro σ' H' fps' dx g' fm k' xr
        obtain ⟨u, k1, k2⟩ := g'.sl 0 d1 hd1
        rw [k'.2 0 rfl, h0] at k1
        cases k1
        have sub : ∀ a, Wp W0 (fps' 0) a → Wof W0 fps' a := fun a z => z.imp id fun z => ⟨0, z⟩
        refine hp d1 H' (fps' 0) dx rfl (k2.move (fun a z => .inl (sub a z)) fun _ _ q _ _ => q) (g'.nd 0) (fun a m => g'.nw 0 a m) ⟨@Fram.keep _ _ _ _ _ _ fm, fun j a m => ?_, fm.oldv, fm.back, fm.tb⟩ (xr.weak sub)
        by_cases hj : j = 0
        · subst hj; exact fm.old 0 a m
        · rw [show fps0 (fps' 0) j = [] from if_neg hj] at m; cases m
      · exact hp.elim
    · exact hp.elim
theorem fn_io {P : Program} {w : World} {K : PySem.W.Frag} {mg : Str → Option Value} {base : Heap} {cm : Cm} {x qual : Str} {st : Stmt} {f : Addr} {fd : FuncData} {N ps : List Str} {k : Nat} {g : FS} (F : Fun K x qual st f fd) (S : FnScope N ps (defScope st))
    (hb : ∀ (cdv : Value) (A : Around) (outer : List PySem.Env) (s : Shared) (H : Hp) (E : XK), RoomG k (A.deeper (envOfC qual (defScope st) s.heap.objs.size f cdv)) → DSs (cxB P w K mg base N qual (defScope st) f cdv A outer s H E) cm (fun _ => E) k1 (defBody st) g) :
    FnG P w K mg base (k + 1) f fd ps (spX cm ps.length (runX ps.length N.length g)) := fn_ioE (toE F) S hb
def xIO (i n : Nat) (m : List D → Out (D × D)) (h : Env → Out (List D × Env)) : FX := fun r => match r[i]? with
  | some (some _) => (h r).bind fun p => match p.2[i]? with
    | some (some d0) => if p.1.length + 1 = n then (match m (d0 :: frzs p.1) with
      | .ok q => .ok (q.1, p.2.set i (some q.2))
      | .exn x [some d1] => .exn x (p.2.set i (some d1))
      | _ => .bad) else .bad
    | _ => .bad
  | _ => .bad
theorem frzs_len : ∀ ds : List D, (frzs ds).length = ds.length
  | [] => rfl
  | d :: ds => by rw [frzs, List.length_cons, List.length_cons, frzs_len ds]
theorem io_back {W0 : Addr → Prop} {H H1 H2 : Hp} {σ : St} {r1 : Env} {fps f1 : Fps} {p1 fp' fpv : List Addr} {i : Nat} {v0 : V} {d1 : D} (g1' : Good cm W0 H1 σ r1 f1) (hv0 : σ[i]? = some (some v0)) (r0 : Rep cm (Wp (fun a => W0 a ∨ ∃ j, j ≠ i ∧ a ∈ f1 j) (fp' ++ fpv)) H2 v0 d1 fp') (own : ∀ a ∈ fpv, MutAt H2 a) (nd : (fp' ++ fpv).Nodup) (nw : ∀ a ∈ fp' ++ fpv, ¬ (W0 a ∨ ∃ j, j ≠ i ∧ a ∈ f1 j)) (fm : Fram H1 (fps0 (f1 i)) H2 (fps0 fp') fpv) (m1 : Fram H fps H1 f1 p1) :
    Good cm (Wp W0 fpv) H2 σ (r1.set i (some d1)) (fun j => if j = i then fp' else f1 j) ∧ Fram H fps H2 (fun j => if j = i then fp' else f1 j) fpv ∧ ∀ a, Wof (Wp W0 fpv) (fun j => if j = i then fp' else f1 j) a → Wp (fun a => W0 a ∨ ∃ j, j ≠ i ∧ a ∈ f1 j) (fp' ++ fpv) a := by
  have nd' := List.nodup_append.mp nd
  have hkeep : ∀ a o, H1 a = some o → a ∉ f1 i → (t : isTb o = false := by rfl) → H2 a = some o := fun a o q n t => fm.keep a o q (fun j m => by
    by_cases hj : j = 0
    · subst hj; exact n m
    · rw [show fps0 (f1 i) j = [] from if_neg hj] at m; cases m) t
  have hold : ∀ a, a ∈ fp' → a ∈ f1 i ∨ H1 a = none := fun a m => (fm.old 0 a m).imp (fun ⟨j, m⟩ => by
    by_cases hj : j = 0
    · subst hj; exact m
    · rw [show fps0 (f1 i) j = [] from if_neg hj] at m; cases m) id
  have holdv : ∀ a, a ∈ fpv → a ∈ f1 i ∨ H1 a = none := fun a m => (fm.oldv a m).imp (fun ⟨j, m⟩ => by
    by_cases hj : j = 0
    · subst hj; exact m
    · rw [show fps0 (f1 i) j = [] from if_neg hj] at m; cases m) id
  have hother : ∀ j a, j ≠ i → a ∈ f1 j → a ∉ fp' ∧ a ∉ fpv := fun j a hj m =>
    ⟨fun z => nw a (List.mem_append_left _ z) (.inr ⟨j, hj, m⟩), fun z => nw a (List.mem_append_right _ z) (.inr ⟨j, hj, m⟩)⟩
  have sub2 : ∀ {j a}, a ∈ (if j = i then fp' else f1 j) → (j = i ∧ a ∈ fp') ∨ (j ≠ i ∧ a ∈ f1 j) := fun {j a} m => by
    split at m
    · exact .inl ⟨by assumption, m⟩
    · exact .inr ⟨by assumption, m⟩
  have wback : ∀ a, Wof (Wp W0 fpv) (fun j => if j = i then fp' else f1 j) a → Wp (fun a => W0 a ∨ ∃ j, j ≠ i ∧ a ∈ f1 j) (fp' ++ fpv) a := fun a z => by
    rcases z with (z | z) | ⟨j, m⟩
    · exact .inl (.inl z)
    · exact .inr (List.mem_append_right _ z)
    · rcases sub2 m with ⟨_, m⟩ | ⟨hj, m⟩
      · exact .inr (List.mem_append_left _ m)
      · exact .inl (.inr ⟨j, hj, m⟩)
  have wold : ∀ a, Wof (Wp W0 fpv) (fun j => if j = i then fp' else f1 j) a → Wof W0 f1 a ∨ H1 a = none := fun a z => by
    rcases z with (z | z) | ⟨j, m⟩
    · exact .inl (.inl z)
    · exact (holdv a z).imp (fun m => .inr ⟨i, m⟩) id
    · rcases sub2 m with ⟨_, m⟩ | ⟨hj, m⟩
      · exact (hold a m).imp (fun m => .inr ⟨i, m⟩) id
      · exact .inl (.inr ⟨j, m⟩)
  have gd : Good cm (Wp W0 fpv) H2 σ (r1.set i (some d1)) (fun j => if j = i then fp' else f1 j) := by
    refine ⟨by rw [List.length_set]; exact g1'.len, ⟨fun a z => ?_, fm.tb g1'.w0.2⟩, fun j d hj => ?_, fun j => ?_, fun j j' a m m' => ?_, fun j a m z => ?_, fun j a m => ?_⟩
    · rcases z with z | z
      · obtain ⟨o, h1, h2⟩ := g1'.w0.1 a z
        exact ⟨o, hkeep a o h1 (fun m => g1'.nw i a m z) (isM_tb h2), h2⟩
      · exact own a z
    · rw [List.getElem?_set] at hj
      by_cases e : i = j
      · subst e
        rw [if_pos rfl] at hj
        split at hj
        · cases hj
          rw [if_pos rfl]
          exact ⟨v0, hv0, r0.move (fun a z => .inl (wback a z)) fun _ _ q _ _ => q⟩
        · cases hj
      · rw [if_neg e] at hj
        rw [if_neg (Ne.symm e)]
        obtain ⟨u, e1, e2⟩ := g1'.sl j d hj
        refine ⟨u, e1, e2.move (fun a z => wold a z) fun a o q t c => hkeep a o q (fun m => ?_) t⟩
        rcases c with c | c
        · exact c (.inr ⟨i, m⟩)
        · exact e (g1'.dj i j a m c)
    · split
      · exact nd'.1
      · exact g1'.nd j
    · rcases sub2 m with ⟨e, m⟩ | ⟨e, m⟩ <;> rcases sub2 m' with ⟨e', m'⟩ | ⟨e', m'⟩
      · rw [e, e']
      · exact absurd m (hother j' a e' m').1
      · exact absurd m' (hother j a e m).1
      · exact g1'.dj j j' a m m'
    · rcases sub2 m with ⟨e, m⟩ | ⟨e, m⟩
      · rcases z with z | z
        · exact nw a (List.mem_append_left _ m) (.inl z)
        · exact nd'.2.2 a m a z rfl
      · rcases z with z | z
        · exact g1'.nw j a m z
        · exact (hother j a e m).2 z
    · rcases sub2 m with ⟨e, m⟩ | ⟨e, m⟩
      · exact r0.own a m
      · obtain ⟨o, h1, h2⟩ := g1'.mu j a m
        exact ⟨o, hkeep a o h1 (fun m' => e (g1'.dj j i a m m')) (isM_tb h2), h2⟩
  refine ⟨gd, ⟨fun a o q n t => ?_, fun j a m => ?_, fun a m => ?_, fun a q => m1.back a (fm.back a q), fun h => fm.tb (m1.tb h)⟩, wback⟩
  · refine hkeep a o (m1.keep a o q n t) (fun m => ?_) t
    rcases m1.old i a m with ⟨j, m⟩ | z
    · exact n j m
    · rw [q] at z; cases z
  · rcases sub2 m with ⟨e, m⟩ | ⟨e, m⟩
    · rcases hold a m with m | z
      · exact m1.old i a m
      · exact .inr (m1.back a z)
    · exact m1.old j a m
  · rcases holdv a m with m | z
    · exact m1.old i a m
    · exact .inr (m1.back a z)
theorem io_con {mm : List D → Out (D × D)} {i : Nat} {ta : TA} {fs : Env → Out (List D × Env)} (h2 : ∀ W0 H σ r fps, Good cm W0 H σ r fps → ∀ Q, Post (fs r) (QXA cm W0 H σ fps Q) (XX cm E W0 H σ fps) → ta σ H Q) :
    ∀ W0 H σ r fps, Good cm W0 H σ r fps → ∀ Q, Post (xIO i n mm fs r) (QX cm W0 H σ fps Q) (XX cm E W0 H σ fps) → ∃ v0, σ[i]? = some (some v0) ∧ ta σ H fun vs H1 => spX cm n mm (v0 :: vs) H1 Q (E σ) := by
  intro W0 H σ r fps g Q hp
  unfold xIO at hp
  split at hp
  · rename_i d00 hd00
    obtain ⟨v0, hv0, _⟩ := g.sl i d00 hd00
    refine ⟨v0, hv0, h2 W0 H σ r fps g _ ((Post.bind hp).mono (fun p q vs H1 f1 p1 g1 k1 n1 w1 m1 => ?_) fun _ _ z => z)⟩
    have ko := k1.open g1 w1 fun _ m => m
    have g1' := g1.drop
    split at q
    · rename_i d0 hd0
      split at q
      · rename_i hl
        split at q
        · rename_i q' hq'
          obtain ⟨u, e1, e2⟩ := g1'.sl i d0 hd0
          rw [hv0] at e1
          cases e1
          have hsub : ∀ a, Wp (fun a => W0 a ∨ ∃ j, j ≠ i ∧ a ∈ f1 j) (f1 i) a → Wof W0 f1 a := fun a z => by
            rcases z with (z | ⟨j, _, m⟩) | z
            · exact .inl z
            · exact .inr ⟨j, m⟩
            · exact .inr ⟨i, z⟩
          refine ⟨fun a => W0 a ∨ ∃ j, j ≠ i ∧ a ∈ f1 j, v0, d0, f1 i, vs, frzs p.1, rfl, ⟨fun a z => g1'.wof.1 a (hsub a z), g1'.w0.2⟩, g1'.nd i, fun a m z => ?_, e2.move (fun a z => .inl (hsub a z)) fun _ _ q _ _ => q, ko.move (fun a z => .inl (hsub a z)) fun _ _ q _ _ => q, by rw [frzs_len]; exact hl, ?_⟩
          · rcases z with z | ⟨j, hj, m'⟩
            · exact g1'.nw i a m z
            · exact hj (g1'.dj j i a m' m)
          · rw [hq']
            intro v H2 fp' fpv r0 rv nd nw fm
            obtain ⟨gd, fr, wback⟩ := io_back g1' hv0 r0 (fun a m => rv.own a m) nd nw fm m1
            exact q v H2 _ fpv gd (rv.move (fun a z => .inl (wback a z)) fun _ _ q _ _ => q) (List.nodup_append.mp nd).2.1 (fun a m z => nw a (List.mem_append_right _ m) (.inl z)) fr
        · rename_i x1 d1 hq'
          obtain ⟨u, e1, e2⟩ := g1'.sl i d0 hd0
          rw [hv0] at e1
          cases e1
          have hsub : ∀ a, Wp (fun a => W0 a ∨ ∃ j, j ≠ i ∧ a ∈ f1 j) (f1 i) a → Wof W0 f1 a := fun a z => by
            rcases z with (z | ⟨j, _, m⟩) | z
            · exact .inl z
            · exact .inr ⟨j, m⟩
            · exact .inr ⟨i, z⟩
          refine ⟨fun a => W0 a ∨ ∃ j, j ≠ i ∧ a ∈ f1 j, v0, d0, f1 i, vs, frzs p.1, rfl, ⟨fun a z => g1'.wof.1 a (hsub a z), g1'.w0.2⟩, g1'.nd i, fun a m z => ?_, e2.move (fun a z => .inl (hsub a z)) fun _ _ q _ _ => q, ko.move (fun a z => .inl (hsub a z)) fun _ _ q _ _ => q, by rw [frzs_len]; exact hl, ?_⟩
          · rcases z with z | ⟨j, hj, m'⟩
            · exact g1'.nw i a m z
            · exact hj (g1'.dj j i a m' m)
          · rw [hq']
            intro d2 H2 fp' dx e r0 nd nw fm xr
            cases e
            obtain ⟨gd, fr, wback⟩ := io_back (fpv := []) g1' hv0 (by rw [List.append_nil]; exact r0) (fun _ m => nomatch m) (by rw [List.append_nil]; exact nd) (by rw [List.append_nil]; exact nw) fm m1
            rw [wp_nil] at gd
            refine q H2 _ dx gd fr (xr.weak fun a z => ?_)
            have := wback a (z.imp (fun z => .inl z) id)
            rw [List.append_nil] at this
            exact this
        · exact q.elim
      · exact q.elim
    · exact q.elim
  · exact hp.elim
theorem xe_io {mm : List D → Out (D × D)} (i : Nat) {fs : Env → Out (List D × Env)} (Fo : FnG X.prog X.w X.K X.mg X.base k f fd ps (spX cm n mm)) (hr : RoomG k X.A) (hg : Gl X x) (hm : X.mg x = some (.ref f)) (hk : PySem.W.keepIn X.K (.ref f) = true) (hb : Binds X.K fd ps []) (hx : PassG X E) (hv : PE X e (tVar i)) (ha : XA X cm E es fs) (hdb : (x == ("__debug__" : Str)) = false := by decide)
    (he : starEach (e :: es) X.env = (false, eval e X.env) :: starEach es X.env := by rfl) (hpl : (backTo pos (starEach es X.env)).any (·.1) = false := by rfl) : XE X cm E (.Call (.Name x p) (e :: es) [] pos) (xIO i n mm fs) := by
  obtain ⟨ta, h1, h2⟩ := ha.ex
  refine ⟨_, pe_callG Fo hr hg hm hk hb .nil hx (pa_cons hv h1 he) hdb he hpl, fun W0 H σ r fps g Q hp => ?_⟩
  obtain ⟨v0, q1, q2⟩ := io_con h2 W0 H σ r fps g Q hp
  refine ⟨v0, q1, ?_⟩
  show ta σ H fun vs H2 => spX cm n mm ((v0 :: vs) ++ []) H2 Q (E σ)
  simp only [List.append_nil]
  exact q2
end
end DL

namespace DL
variable [Tbs]
open PySem L2
section
variable {X : Cx} {cm : Cm} {E : XS} {b : Bool} {pos p : Pos} {ks : Nat → Bool} {a c e : Expr} {es : List Expr} {fa fb : F}

def joinL (sep : List Nat) : List (List Nat) → List Nat
  | [] => []
  | x :: xs => x ++ (xs.map fun y => sep ++ y).flatten
def strsD : List D → Option (List (List Nat))
  | [] => some []
  | .str x :: ds => (strsD ds).map (x :: ·)
  | _ => none
theorem glued_fold (sep : List Nat) : ∀ (xs : List (List Nat)) (acc : List Nat), (xs.map fun y => (⟨y.toArray⟩ : Str)).foldl (fun acc p => acc ++ (⟨sep.toArray⟩ : Str).cps ++ p.cps) acc.toArray = (acc ++ (xs.map fun y => sep ++ y).flatten).toArray
  | [], acc => by simp
  | y :: ys, acc => by
    rw [List.map_cons, List.foldl_cons]
    show List.foldl _ (acc.toArray ++ sep.toArray ++ y.toArray) _ = _
    rw [List.append_toArray, List.append_toArray, glued_fold sep ys, List.map_cons, List.flatten_cons, List.append_assoc, List.append_assoc, List.append_assoc]
theorem txtJoin (sep : List Nat) (xs : List (List Nat)) : Txt.join ⟨sep.toArray⟩ (xs.map fun y => ⟨y.toArray⟩) = ⟨(joinL sep xs).toArray⟩ := by
  cases xs with
  | nil => rfl
  | cons x xs =>
    show Builtin.Str.glued _ _ = _
    unfold Builtin.Str.glued joinL
    congr 1
    exact glued_fold sep xs x
theorem strsD_reps {W : Addr → Prop} {H : Hp} : ∀ {vs : List V} {ds : List D} {fp : List Addr}, Reps cm W H vs ds fp → ∀ {xs : List (List Nat)}, strsD ds = some xs → vs = (xs.map fun y => (⟨y.toArray⟩ : Str)).map V.str
  | _, _, _, .nil, xs, h => by cases h; rfl
  | _, _, _, .cons (d := d) r rs, xs, h => by
    cases d <;> first | (cases h; done) | skip
    obtain ⟨ys, h1, rfl⟩ := Option.map_eq_some_iff.mp h
    cases r
    rw [strsD_reps rs h1]
    rfl
def lenSum (xs : List (List Nat)) : Nat := (xs.map List.length).sum
def gJoin : D → D → Out D := fun s l => match s, l with
  | .str sep, .lst _ ds => match strsD ds with
    | some xs => if lenSum xs + xs.length * sep.length ≤ 1000000 then .ok (.str (joinL sep xs)) else .bad
    | none => .bad
  | _, _ => .bad
abbrev rJoin (K : PySem.W.Frag) : V → List V → Hp → VK → Prop := fun x xs H Q => ∃ a p, ∃ ys : List Str, x = .str a ∧ xs = [.ref p] ∧ (SqL K H p (ys.map V.str) ∨ SqT K H p (ys.map V.str)) ∧ (ys.map (·.length)).sum + ys.length * a.length ≤ 16777216 ∧ Q (.str (Txt.join a ys)) H
theorem o_join {W : Addr → Prop} {H : Hp} {x y : V} {dx dy : D} {Q : VK} (rx : Rep cm W H x dx []) (ry : Rep cm W H y dy []) (hp : Post (gJoin dx dy) (QP cm W b H Q) noX) : (∃ a, x = .str a) ∧ rJoin X.K x [y] H Q := by
  unfold gJoin at hp
  split at hp
  · split at hp
    · rename_i xs hxs
      split at hp
      · rename_i hz
        cases rx
        generalize hf : ([] : List Addr) = fp at ry
        cases ry with
        | lstO => cases hf
        | lstF h n r =>
          have e := strsD_reps r hxs
          subst e
          refine ⟨⟨_, rfl⟩, _, _, _, rfl, rfl, .inl (SqL.of h), ?_, ?_⟩
          · have e1 : ((xs.map fun y => (⟨y.toArray⟩ : Str)).map (·.length)) = xs.map List.length := by
              rw [List.map_map]
              exact List.map_congr_left fun y _ => strLen y
            rw [e1, List.length_map, strLen]
            exact Nat.le_trans hz (by decide)
          · rw [txtJoin]
            exact hp _ H [] (Ex.refl H) (.str _) FpN.nil
      · exact hp.elim
    · exact hp.elim
  · exact hp.elim
theorem noEx_join : NoEx gJoin := fun a b x r h => by
  unfold gJoin at h
  split at h
  · split at h
    · split at h <;> cases h
    · cases h
  · cases h
def isStrB : D → Bool
  | .str _ => true
  | _ => false
def c2S (g : D → D → Out D) (fa fb : F) : F := fun r => (fa r).bind fun a => if isStrB a = true then (fb r).bind fun b => g a b else .bad
theorem Rep.isStr {W : Addr → Prop} {H : Hp} {v : V} {d : D} {fp : List Addr} (r : Rep cm W H v d fp) (h : isStrB d = true) : ∃ a, v = .str a := by
  cases d <;> first | (cases h; done) | skip
  cases r
  exact ⟨_, rfl⟩
theorem de_m1 {te : TE → TE → TE} {r : V → List V → Hp → VK → Prop} {g : D → D → Out D} (hpe : ∀ ta tb, PE X a ta → PE X c tb → PE X e (tM1 r ta tb)) (ho : ∀ W H x y dx dy, WOk cm W H → Rep cm W H x dx [] → Rep cm W H y dy [] → ∀ Q : VK, Post (g dx dy) (QP cm W b H Q) noX → r x [y] H Q) (hn : NoEx g) (ha : DE X cm E false a fa) (hb : DE X cm E false c fb) : DE X cm E b e (c2S g fa fb) := by
  obtain ⟨ta, h1, h2⟩ := ha.ex
  obtain ⟨tb, h3, h4⟩ := hb.ex
  refine ⟨_, hpe ta tb h1 h3, fun W H σ env w fr Q hp => h2 W H σ env w fr _ (hp.bind.mono (fun d q v H1 fp e1 r1 f1 => ?_) fun _ _ z => z)⟩
  cases (show fp = [] from f1)
  split at q
  · rename_i hs
    refine ⟨r1.isStr hs, h4 W H1 σ env (w.ex e1) (fr.ex e1) _ (q.bind.mono (fun d2 q2 u H2 fp2 e2 r2 f2 => ?_) fun x rr z => XPost.ex e1 z)⟩
    cases (show fp2 = [] from f2)
    exact ho W H2 v u d d2 ((w.ex e1).ex e2) (r1.ex e2).ofP r2.ofP Q (Post.noX (q2.mono (fun d q3 z H3 fp3 e3 r3 f3 => q3 z H3 fp3 ((e1.trans e2).trans e3) r3 (f3.ex (e1.trans e2))) fun _ _ z => z) (hn d d2))
  · exact q.elim
theorem de_join {apos : Pos} (ha : DE X cm E false a fa) (hb : DE X cm E false c fb) (hs : starEach [c] X.env = [(false, eval c X.env)] := by rfl) (hbase : attributeBase a "join" X.env (eval a X.env) = eval a X.env := by rfl) (hline : (apos.endLine == pos.line) = true := by rfl) :
    DE X cm E b (.Call (.Attribute a "join" apos) [c] [] pos) (c2S gJoin fa fb) :=
  de_m1 (te := fun x _ => x) (fun ta tb h1 h3 => pe_join h1 h3 hs hbase hline) (fun W H x y dx dy w rx ry Q hp => (o_join rx ry hp).2) noEx_join ha hb
def x2S (gg : D → D → Out D) (f h : FX) : FX := fun r => (f r).bind fun p => if isStrB p.1 = true then (h p.2).bind fun q => (gg (frz p.1) (frz q.1)).bind fun d => .ok (d, q.2) else .bad
theorem xe_m1 {f h : FX} {r : V → List V → Hp → VK → Prop} {g : D → D → Out D} (hpe : ∀ ta tb, PE X a ta → PE X c tb → PE X e (tM1 r ta tb)) (ho : ∀ W H x y dx dy, WOk cm W H → Rep cm W H x dx [] → Rep cm W H y dy [] → ∀ Q : VK, Post (g dx dy) (QP cm W true H Q) noX → r x [y] H Q) (hn : NoEx g) (ha : XE X cm E a f) (hb : XE X cm E c h) : XE X cm E e (x2S g f h) := by
  obtain ⟨ta, h1, h2⟩ := ha.ex
  obtain ⟨tb, h3, h4⟩ := hb.ex
  refine ⟨_, hpe ta tb h1 h3, fun W0 H σ r fps gd Q hp => h2 W0 H σ r fps gd _ (hp.bind.mono (fun p q v H1 f1 p1 g1 k1 n1 w1 m1 => ?_) fun _ _ z => z)⟩
  split at q
  · rename_i hs
    refine ⟨k1.isStr hs, h4 (Wp W0 p1) H1 σ p.2 f1 g1 _ (q.bind.mono (fun p' q' u H2 f2 p2 g2 k2 n2 w2 m2 => ?_) fun x rr z => XX.later m1 z)⟩
    obtain ⟨z1, z2, z3, z4, z5⟩ := two g1 k1 n1 w1 m1 g2 (Reps.one k2) n2 w2 m2
    have o2 := z2.open z1 z4 fun _ m => m
    obtain ⟨a', e1, e2⟩ := o2.at rfl (i := 0) (d := frz p.1) rfl
    obtain ⟨b', e3, e4⟩ := o2.at rfl (i := 1) (d := frz p'.1) rfl
    cases e1; cases e3
    exact ho (Wof W0 f2) H2 v u _ _ z1.drop.wof e2 e4 Q (opened z1 z5 q' (hn _ _))
  · exact q.elim
theorem xe_join {f h : FX} {apos : Pos} (ha : XE X cm E a f) (hb : XE X cm E c h) (hs : starEach [c] X.env = [(false, eval c X.env)] := by rfl) (hbase : attributeBase a "join" X.env (eval a X.env) = eval a X.env := by rfl) (hline : (apos.endLine == pos.line) = true := by rfl) :
    XE X cm E (.Call (.Attribute a "join" apos) [c] [] pos) (x2S gJoin f h) :=
  xe_m1 (fun ta tb h1 h3 => pe_join h1 h3 hs hbase hline) (fun W H x y dx dy w rx ry Q hp => (o_join rx ry hp).2) noEx_join ha hb

def blsD : List D → Option (List Bool)
  | [] => some []
  | .bl x :: ds => (blsD ds).map (x :: ·)
  | _ => none
theorem blsD_reps {W : Addr → Prop} {H : Hp} : ∀ {vs : List V} {ds : List D} {fp : List Addr}, Reps cm W H vs ds fp → ∀ {xs : List Bool}, blsD ds = some xs → vs = xs.map V.bl
  | _, _, _, .nil, xs, h => by cases h; rfl
  | _, _, _, .cons (d := d) r rs, xs, h => by
    cases d <;> first | (cases h; done) | skip
    obtain ⟨ys, h1, rfl⟩ := Option.map_eq_some_iff.mp h
    cases r
    rw [blsD_reps rs h1]
    rfl
def gAll : D → Out D
  | .lst _ ds => match blsD ds with
    | some xs => .ok (.bl (xs.all id))
    | none => .bad
  | _ => .bad
def gAny : D → Out D
  | .lst _ ds => match blsD ds with
    | some xs => .ok (.bl (xs.any id))
    | none => .bad
  | _ => .bad
theorem de_all {fs : Env → Out (List D)} (hc : X.calm = true) (hg : Gl X "all") (hm : X.mg "all" = none) (ha : DA X cm E false [a] fs) (he : starEach [a] X.env = (false, eval a X.env) :: starEach [] X.env := by rfl) (hpl : (backTo pos (starEach [] X.env)).any (·.1) = false := by rfl) : DE X cm E b (.Call (.Name "all" p) [a] [] pos) (cA (g1 gAll) fs) :=
  de_blt (cr_all hc) (ra_1 fun W H v d w rp Q hp => by
    unfold gAll at hp
    split at hp
    · split at hp
      · rename_i xs hx
        generalize hf : ([] : List Addr) = fp at rp
        cases rp with
        | lstO => cases hf
        | lstF h n r =>
          have e := blsD_reps r hx
          subst e
          exact ⟨_, _, rfl, SqL.of h, hp _ H [] (Ex.refl H) (.bl _) FpN.nil⟩
      · exact hp.elim
    · exact hp.elim) (noEx_g1 fun a x r h => by
      unfold gAll at h
      split at h
      · split at h <;> cases h
      · cases h) hg hm (by decide +kernel) ha (by decide) (by decide) he hpl
def gList : D → Out D
  | .lst _ xs => .ok (.lst true xs)
  | .tup xs => .ok (.lst true xs)
  | .str cs => if cs.length ≤ 1000000 then .ok (.lst true (cs.map fun c => .str [c])) else .bad
  | _ => .bad
def gInt : D → Out D
  | .int i => .ok (.int i)
  | .bl k => .ok (.int (if k then 1 else 0))
  | _ => .bad
theorem de_intc {fs : Env → Out (List D)} (hg : Gl X "int") (hm : X.mg "int" = none) (ha : DA X cm E false [a] fs) (he : starEach [a] X.env = (false, eval a X.env) :: starEach [] X.env := by rfl) (hpl : (backTo pos (starEach [] X.env)).any (·.1) = false := by rfl) : DE X cm E b (.Call (.Name "int" p) [a] [] pos) (cA (g1 gInt) fs) :=
  de_ty call_int1 (ra_1 fun W H v d w rp Q hp => by
    unfold gInt at hp
    split at hp
    · cases rp; exact .inl ⟨_, rfl, hp _ H [] (Ex.refl H) (.int _) FpN.nil⟩
    · cases rp; exact .inr ⟨_, rfl, hp _ H [] (Ex.refl H) (.int _) FpN.nil⟩
    · exact hp.elim) (noEx_g1 fun a x r h => by
    unfold gInt at h
    split at h <;> cases h) hg hm (by decide +kernel) ha (by decide) (by decide) he hpl
def gMx : List D → Out D
  | [.int i, .int j] => .ok (.int (if j > i then j else i))
  | _ => .bad
def gMn : List D → Out D
  | [.int i, .int j] => .ok (.int (if j < i then j else i))
  | _ => .bad
theorem de_max2 {fs : Env → Out (List D)} (hc : X.calm = true) (hg : Gl X "max") (hm : X.mg "max" = none) (ha : DA X cm E false [a, c] fs) (he : starEach [a, c] X.env = (false, eval a X.env) :: starEach [c] X.env := by rfl) (hpl : (backTo pos (starEach [c] X.env)).any (·.1) = false := by rfl) : DE X cm E b (.Call (.Name "max" p) [a, c] [] pos) (cA gMx fs) :=
  de_blt (call_max2 hc) (fun W H vs ds w rp Q hp => by
    unfold gMx at hp
    split at hp
    · generalize hf : ([] : List Addr) = fp at rp
      cases rp with
      | cons k1 k2 =>
        cases k1
        cases k2 with
        | cons k2 k3 =>
          cases k2; cases k3
          exact ⟨_, _, rfl, hp _ H [] (Ex.refl H) (.int _) FpN.nil⟩
    · exact hp.elim) (fun a x r h => by
    unfold gMx at h
    split at h <;> cases h) hg hm (by decide +kernel) ha (by decide) (by decide) he hpl
theorem de_min2 {fs : Env → Out (List D)} (hc : X.calm = true) (hg : Gl X "min") (hm : X.mg "min" = none) (ha : DA X cm E false [a, c] fs) (he : starEach [a, c] X.env = (false, eval a X.env) :: starEach [c] X.env := by rfl) (hpl : (backTo pos (starEach [c] X.env)).any (·.1) = false := by rfl) : DE X cm E b (.Call (.Name "min" p) [a, c] [] pos) (cA gMn fs) :=
  de_blt (call_min2 hc) (fun W H vs ds w rp Q hp => by
    unfold gMn at hp
    split at hp
    · generalize hf : ([] : List Addr) = fp at rp
      cases rp with
      | cons k1 k2 =>
        cases k1
        cases k2 with
        | cons k2 k3 =>
          cases k2; cases k3
          exact ⟨_, _, rfl, hp _ H [] (Ex.refl H) (.int _) FpN.nil⟩
    · exact hp.elim) (fun a x r h => by
    unfold gMn at h
    split at h <;> cases h) hg hm (by decide +kernel) ha (by decide) (by decide) he hpl
end
end DL

namespace DL
variable [Tbs]
open PySem L2
section
variable {X : Cx} {cm : Cm} {E : XS} {b : Bool} {pos p : Pos} {ks : Nat → Bool} {a c e tg : Expr} {es : List Expr} {f h : FX} {g : FS}
def xTB (f : FX) : Env → Out (Bool × Env) := fun r => (f r).bind fun p => (isB p.1).bind fun k => .ok (k, p.2)
def xAnd (s t : Env → Out (Bool × Env)) : Env → Out (Bool × Env) := fun r => (s r).bind fun p => if p.1 = true then t p.2 else .ok (false, p.2)
def xOr (s t : Env → Out (Bool × Env)) : Env → Out (Bool × Env) := fun r => (s r).bind fun p => if p.1 = true then .ok (true, p.2) else t p.2
def xNot (s : Env → Out (Bool × Env)) : Env → Out (Bool × Env) := fun r => (s r).bind fun p => .ok (!p.1, p.2)
theorem xtB_con {te : TE} (h2 : ∀ W0 H σ r fps, Good cm W0 H σ r fps → ∀ Q, Post (f r) (QX cm W0 H σ fps Q) (XX cm E W0 H σ fps) → te σ H Q) : ∀ W0 H σ r fps, Good cm W0 H σ r fps → ∀ Q, Post (xTB f r) (QXT cm W0 H σ fps Q) (XX cm E W0 H σ fps) → te σ H fun x H1 => ∃ k, x = .bl k ∧ Q k H1 := fun W0 H σ r fps gd Q hp =>
  h2 W0 H σ r fps gd _ (hp.bind.mono (fun p q v H1 f1 p1 g1 k1 n1 w1 m1 => by
    obtain ⟨d, r'⟩ := p
    cases d <;> first | exact q.elim | skip
    cases k1
    exact ⟨_, rfl, q H1 f1 g1.drop (m1.addv fun _ m => (nomatch m))⟩) fun _ _ z => z)
theorem xt_cmp {op : CmpOp} {rr : R2} {gg : D → D → Out D} {fa fb : FX} (hr : OpR X (compareOp op) rr) (ho : Op2' cm true rr gg) (hn : NoEx gg) (hm : behindInMarks op c = false) (ha : XE X cm E a fa) (hb : XE X cm E c fb) : XT X cm E (.Compare a [op] [c] pos) (xTB (x2 gg fa fb)) := by
  obtain ⟨ta, h1, h2⟩ := ha.ex
  obtain ⟨tb, h3, h4⟩ := hb.ex
  exact ⟨_, pt_cmpR hr h1 h3 hm, xtB_con (xcon2 ho hn h2 h4)⟩
theorem XW.xt {s : Env → Out (Bool × Env)} (h : XW X cm E e s) : XT X cm E e s := by
  obtain ⟨te, h1, h2⟩ := h.ex
  exact ⟨te, h1.pt, h2⟩
theorem xw_and1 {s : Env → Out (Bool × Env)} (h : XT X cm E a s) : XW X cm E (.BoolOp .And [a] pos) s := by
  obtain ⟨te, h1, h2⟩ := h.ex
  exact ⟨_, pw_and1 h1, h2⟩
theorem QXT.later {W0 : Addr → Prop} {H H1 : Hp} {σ : St} {fps f1 : Fps} {Q : Bool → Hp → Prop} {o : Out (Bool × Env)} (m1 : Fram H fps H1 f1 []) (h : Post o (QXT cm W0 H σ fps Q) (XX cm E W0 H σ fps)) : Post o (QXT cm W0 H1 σ f1 Q) (XX cm E W0 H1 σ f1) :=
  h.mono (fun p q H2 f2 g2 m2 => q H2 f2 g2 (m1.trans m2)) fun x rr z H2 f2 dx g2 m2 xr => z H2 f2 dx g2 (m1.trans m2) xr
theorem xw_and {rest : List Expr} {s t : Env → Out (Bool × Env)} (h : XT X cm E a s) (k : XW X cm E (.BoolOp .And (c :: rest) pos) t) : XW X cm E (.BoolOp .And (a :: c :: rest) pos) (xAnd s t) := by
  obtain ⟨te, h1, h2⟩ := h.ex
  obtain ⟨tf, k1, k2⟩ := k.ex
  refine ⟨_, pw_and h1 k1, fun W0 H σ r fps gd Q hp => h2 W0 H σ r fps gd _ (hp.bind.mono (fun p q H1 f1 g1 m1 => ?_) fun _ _ z => z)⟩
  obtain ⟨bb, r'⟩ := p
  cases bb with
  | true => exact k2 W0 H1 σ r' f1 g1 Q (QXT.later m1 q)
  | false => exact q H1 f1 g1 m1
theorem ds_while {body : List Stmt} {t : Env → Out (Bool × Env)} (n : Nat) (hp' : PassesOwn (model X.prog X.w) X.A X.env X.xe) (hc : XT X cm E c t) (hb : DSs X cm E ks body g) : DS X cm E ks (.While c body [] pos) (whileS t g n) := by
  obtain ⟨tt, t1, t2⟩ := hc.ex
  obtain ⟨tb, b1, b2⟩ := hb.ex
  refine ⟨_, ps_while hp' t1 b1, fun W0 H σ r fps gd D hp => ?_⟩
  refine ⟨fun m σ' H' => ∃ r' f', Good cm W0 H' σ' r' f' ∧ Fram H fps H' f' [] ∧ Keep ks σ σ' ∧ SPost cm E W0 H σ fps ks D (whileS t g m r'), ⟨n, r, fps, gd, Fram.refl _ _, Keep.refl ks σ, hp⟩, ?_⟩
  rintro m σ' H' ⟨r', f', g', fm', k', hq⟩
  cases m with
  | zero => exact hq.elim
  | succ m =>
    refine t2 W0 H' σ' r' f' g' _ ?_
    unfold whileS at hq
    split at hq
    · rename_i pp hr
      rw [hr]
      obtain ⟨bb, r1⟩ := pp
      intro H1 f1 g1 m1
      have fm1 := fm'.trans m1
      cases bb with
      | false => exact hq σ' H1 f1 g1 fm1 k'
      | true =>
        refine ⟨fun σ5 H5 => ∃ r' f', Good cm W0 H5 σ5 r' f' ∧ Fram H fps H5 f' [] ∧ Keep ks σ σ5 ∧ SPost cm E W0 H σ fps ks D (whileS t g m r'), fun σ5 H5 h5 => ⟨m, Nat.lt_succ_self m, h5⟩, ?_⟩
        refine b2 W0 H1 σ' r1 f1 g1 _ ?_
        simp only [if_true] at hq
        cases hb : g r1 with
        | nx r4 =>
          rw [hb] at hq
          exact fun σ4 H4 f4 g4 fm4 k4 => ⟨r4, f4, g4, fm1.trans fm4, k'.trans k4, hq⟩
        | ct r4 =>
          rw [hb] at hq
          exact fun σ4 H4 f4 g4 fm4 k4 => ⟨r4, f4, g4, fm1.trans fm4, k'.trans k4, hq⟩
        | bk r4 =>
          rw [hb] at hq
          exact fun σ4 H4 f4 g4 fm4 k4 => hq σ4 H4 f4 g4 (fm1.trans fm4) (k'.trans k4)
        | rt d4 r4 =>
          rw [hb] at hq
          exact fun v σ4 H4 f4 p4 g4 rp nd nw fm4 k4 => hq v σ4 H4 f4 p4 g4 rp nd nw (fm1.trans fm4) (k'.trans k4)
        | exn x4 r4 =>
          rw [hb] at hq
          exact fun σ4 H4 f4 dx g4 fm4 k4 xr => hq σ4 H4 f4 dx g4 (fm1.trans fm4) (k'.trans k4) xr
        | bad => rw [hb] at hq; exact hq.elim
    · rename_i x r2 hr
      rw [hr]
      exact fun H1 fps' dx g1 fm xr => hq σ' H1 fps' dx g1 (fm'.trans fm) k' xr
    · exact hq.elim
theorem Good.mut {W0 : Addr → Prop} {H : Hp} {σ : St} {r : Env} {fps : Fps} {i : Nat} {pa : Addr} {vs' : List V} {ds' : List D} {fp' fpv : List Addr} (g : Good cm (Wp W0 fpv) H σ r fps) (hv : σ[i]? = some (some (.ref pa))) (hp : ∃ vs, H pa = some (.lst vs)) (hpa : pa ∈ fps i) (hrp : Reps cm (Wof (Wp W0 fpv) fps) H vs' ds' fp') (hsub : ∀ a ∈ fp', a ∈ fps i ∨ a ∈ fpv) (hnp : pa ∉ fp') (nd : fp'.Nodup) (nw : ∀ a ∈ fpv, ¬ W0 a) :
    Good cm W0 (upd H pa (.lst vs')) σ (r.set i (some (.lst true ds'))) (fun j => if j = i then pa :: fp' else fps j) := by
  have sub : ∀ {j a}, a ∈ (if j = i then pa :: fp' else fps j) → (j = i ∧ (a = pa ∨ a ∈ fp')) ∨ (j ≠ i ∧ a ∈ fps j) := fun {j a} m => by
    split at m
    · exact .inl ⟨by assumption, List.mem_cons.mp m⟩
    · exact .inr ⟨by assumption, m⟩
  have own : ∀ {j a}, a ∈ (if j = i then pa :: fp' else fps j) → Wof (Wp W0 fpv) fps a := fun {j a} m => by
    rcases sub m with ⟨_, rfl | m⟩ | ⟨_, m⟩
    · exact .inr ⟨i, hpa⟩
    · exact (hsub a m).elim (fun m => .inr ⟨i, m⟩) fun m => .inl (.inr m)
    · exact .inr ⟨j, m⟩
  have wsub : ∀ a, Wof W0 (fun j => if j = i then pa :: fp' else fps j) a → Wof (Wp W0 fpv) fps a := fun a z => by
    rcases z with z | ⟨j, m⟩
    · exact .inl (.inl z)
    · exact own m
  have mut' : ∀ a, MutAt H a → MutAt (upd H pa (.lst vs')) a := fun a ⟨o, h1, h2⟩ => by
    by_cases e : a = pa
    · subst e; exact ⟨_, upd_same, rfl⟩
    · exact ⟨o, by rw [upd_ne e]; exact h1, h2⟩
  have nother : ∀ j a, j ≠ i → a ∈ fps j → a ≠ pa ∧ a ∉ fp' := fun j a hj m => ⟨fun z => hj (g.dj j i a m (z ▸ hpa)), fun z => (hsub a z).elim (fun z => hj (g.dj j i a m z)) fun z => g.nw j a m (.inr z)⟩
  refine ⟨by rw [List.length_set]; exact g.len, ⟨fun a z => mut' a (g.w0.1 a (.inl z)), Tabs.updM g.w0.2 (g.mu i pa hpa)⟩, fun j d hj => ?_, fun j => ?_, fun j j' a m m' => ?_, fun j a m z => ?_, fun j a m => ?_⟩
  · rw [List.getElem?_set] at hj
    by_cases e : i = j
    · subst e
      rw [if_pos rfl] at hj
      split at hj
      · cases hj
        rw [if_pos rfl]
        refine ⟨_, hv, .lstO upd_same (hrp.move (fun a z => .inl (wsub a z)) fun a o q _ cc => ?_)⟩
        rw [upd_ne]
        · exact q
        · rcases cc with cc | cc
          · exact fun z => cc (.inr ⟨i, z ▸ hpa⟩)
          · exact fun z => hnp (z ▸ cc)
      · cases hj
    · rw [if_neg e] at hj
      rw [if_neg (Ne.symm e)]
      obtain ⟨u, e1, e2⟩ := g.sl j d hj
      refine ⟨u, e1, e2.move (fun a z => .inl (wsub a z)) fun a o q _ cc => ?_⟩
      rw [upd_ne]
      · exact q
      · rcases cc with cc | cc
        · exact fun z => cc (.inr ⟨i, z ▸ hpa⟩)
        · exact (nother j a (Ne.symm e) cc).1
  · split
    · exact List.nodup_cons.mpr ⟨hnp, nd⟩
    · exact g.nd j
  · rcases sub m with ⟨e, m⟩ | ⟨e, m⟩ <;> rcases sub m' with ⟨e', m'⟩ | ⟨e', m'⟩
    · rw [e, e']
    · rcases m with m | m
      · exact absurd m (nother j' a e' m').1
      · exact absurd m (nother j' a e' m').2
    · rcases m' with m' | m'
      · exact absurd m' (nother j a e m).1
      · exact absurd m' (nother j a e m).2
    · exact g.dj j j' a m m'
  · rcases sub m with ⟨_, rfl | m⟩ | ⟨_, m⟩
    · exact g.nw i _ hpa (.inl z)
    · exact (hsub a m).elim (fun m => g.nw i a m (.inl z)) fun m => nw a m z
    · exact g.nw j a m (.inl z)
  · exact mut' a (g.wof.1 a (own m))
theorem Fram.mut {H H1 : Hp} {fps f1 : Fps} {i : Nat} {pa : Addr} {o : HO} {fp' fpv : List Addr} (fm : Fram H fps H1 f1 fpv) (hpa : pa ∈ f1 i) (hh : MutAt H1 pa) (hsub : ∀ a ∈ fp', a ∈ f1 i ∨ a ∈ fpv) : Fram H fps (upd H1 pa o) (fun j => if j = i then pa :: fp' else f1 j) [] where
  tb := fun h => Tabs.updM (fm.tb h) hh
  keep := fun a u q n t => by
    rw [upd_ne]
    · exact fm.keep a u q n t
    · intro z
      subst z
      rcases fm.old i _ hpa with ⟨j, m⟩ | z
      · exact n j m
      · rw [q] at z; cases z
  old := fun j a m => by
    split at m
    · rcases List.mem_cons.mp m with rfl | m
      · exact fm.old i _ hpa
      · exact (hsub a m).elim (fm.old i a) (fm.oldv a)
    · exact fm.old j a m
  oldv := fun _ m => (nomatch m)
  back := fun a q => by
    by_cases e : a = pa
    · subst e; rw [upd_same] at q; cases q
    · rw [upd_ne e] at q; exact fm.back a q
theorem Rep.lstOf {W : Addr → Prop} {H : Hp} {v : V} {ds : List D} {fp : List Addr} (h : Rep cm W H v (.lst true ds) fp) : ∃ pa vs fp', v = .ref pa ∧ H pa = some (.lst vs) ∧ fp = pa :: fp' ∧ Reps cm W H vs ds fp' := by
  cases h with
  | lstO h r => exact ⟨_, _, _, rfl, h, rfl, r⟩
def sApp (i : Nat) (f : FX) : FX := fun r => match r[i]? with
  | some (some (.lst true _)) => (f r).bind fun p => match p.2[i]? with
    | some (some (.lst true ds)) => if ds.length < 1000000 then .ok (.non, p.2.set i (some (.lst true (ds ++ [p.1])))) else .bad
    | _ => .bad
  | _ => .bad
theorem xe_app (i : Nat) {apos : Pos} (hv : PE X a (tVar i)) (h1 : XE X cm E e f) (hbase : attributeBase a "append" X.env (eval a X.env) = eval a X.env := by rfl)
    (hfew : ((backTo pos (starEach [e] X.env)).all (fun x => !x.1) && (backToKw pos (keywordEach [] X.env)).all (fun x => x.1.isSome) && decide ([e].length + ([] : List Keyword).length + (if ([] : List Keyword).isEmpty then 0 else 1) < 30)) = true := by rfl)
    (hline : (apos.endLine == pos.line) = true := by rfl) (hs : starEach [e] X.env = (false, eval e X.env) :: starEach [] X.env := by rfl) (hplain : (backTo pos (starEach [] X.env)).any (·.1) = false := by rfl) :
    XE X cm E (.Call (.Attribute a "append" apos) [e] [] pos) (sApp i f) := by
  obtain ⟨te, a1, a2⟩ := h1.ex
  refine ⟨_, pe_bm PySem.F.plainAttrs_list PySem.F.slot_list_append PySem.F.type_list_append mt_append hv (pa_cons a1 pa_nil hs) hbase hfew hline hs hplain, fun W0 H σ r fps gd Q hp => ?_⟩
  unfold sApp at hp
  split at hp
  · rename_i ds0 hd0
    obtain ⟨v0, q1, q2⟩ := gd.sl i _ hd0
    obtain ⟨pa, vs0, fp0, rfl, hpa0, hfp0, _⟩ := q2.lstOf
    refine ⟨_, q1, .inl ⟨rfl, _, SqL.of hpa0⟩, ?_⟩
    refine a2 W0 H σ r fps gd _ (hp.bind.mono (fun pp q v H1 f1 p1 g1 k1 n1 w1 m1 => ?_) fun _ _ z => z)
    split at q
    · rename_i ds hd
      split at q
      · rename_i hl
        obtain ⟨v1, e1, e2⟩ := g1.sl i _ hd
        rw [q1] at e1
        cases e1
        obtain ⟨pa', vs, fp, e3, hpa, hfp, hr⟩ := e2.lstOf
        cases e3
        refine ⟨pa, vs, v, rfl, rfl, hpa, Nat.lt_of_lt_of_le (show vs.length < 1000000 by rw [hr.len]; exact hl) (by decide), ?_⟩
        have hmem : pa ∈ f1 i := by rw [hfp]; exact List.mem_cons_self ..
        have hsub : ∀ a ∈ fp ++ p1, a ∈ f1 i ∨ a ∈ p1 := fun a m => by
          rcases List.mem_append.mp m with m | m
          · exact .inl (by rw [hfp]; exact List.mem_cons_of_mem _ m)
          · exact .inr m
        have nd1 := g1.nd i
        rw [hfp] at nd1
        have nd2 := List.nodup_cons.mp nd1
        have hnp : pa ∉ fp ++ p1 := fun m => by
          rcases List.mem_append.mp m with m | m
          · exact nd2.1 m
          · exact g1.nw i pa hmem (.inr m)
        have hnd : (fp ++ p1).Nodup := List.nodup_append.mpr ⟨nd2.2, n1, fun a m c m' z => g1.nw i a (by rw [hfp]; exact List.mem_cons_of_mem _ m) (.inr (z ▸ m'))⟩
        have hrs : Reps cm (Wof (Wp W0 p1) f1) H1 (vs ++ [v]) (ds ++ [pp.1]) (fp ++ p1) := Reps.app hr (Reps.one k1)
        have g2 := g1.mut q1 ⟨_, hpa⟩ hmem hrs hsub hnp hnd w1
        exact q .non _ _ [] (by rw [wp_nil]; exact g2) .non List.nodup_nil (fun _ m => (nomatch m)) (m1.mut hmem ⟨_, hpa, rfl⟩ hsub)
      · exact q.elim
    · exact q.elim
  · exact hp.elim
def sPut (i : Nat) (f : FX) (fk : FX) : FS := fun r => match f r with
  | .ok p => match p.2[i]? with
    | some (some _) => match fk p.2 with
      | .ok q => match q.1, q.2[i]? with
        | .int k, some (some (.lst true ds)) => match ixN ds.length k with
          | some j => .nx (q.2.set i (some (.lst true (ds.set j (frz p.1)))))
          | none => .bad
        | _, _ => .bad
      | .exn x r' => .exn x r'
      | .bad => .bad
    | _ => .bad
  | .exn x r' => .exn x r'
  | .bad => .bad
theorem Reps.set {W : Addr → Prop} {H : Hp} {v : V} {d : D} (rv : Rep cm W H v d []) : ∀ (j : Nat) {vs : List V} {ds : List D} {fp : List Addr}, Reps cm W H vs ds fp → ∃ fp', Reps cm W H (vs.set j v) (ds.set j d) fp' ∧ fp'.Sublist fp
  | _, _, _, _, .nil => ⟨[], .nil, List.Sublist.refl _⟩
  | 0, _, _, _, .cons (fp := f1) (fps := f2) h r => ⟨[] ++ f2, .cons rv r, List.sublist_append_right _ _⟩
  | j + 1, _, _, _, .cons (fp := f1) (fps := f2) h r => by
    obtain ⟨f', h1, h2⟩ := Reps.set rv j r
    exact ⟨f1 ++ f', .cons h h1, List.Sublist.append (List.Sublist.refl _) h2⟩
theorem ds_put (i : Nat) {o k : Expr} {fk : FX} {tpos : Pos} (hv : PE X o (tVar i)) (h1 : XE X cm E e f) (hk : XE X cm E k fk) (hps : ∀ te ti, PE X e te → PE X k ti → PS X (.Assign [.Subscript o k tpos] e pos) (tAsg te (gSub (tVar i) ti rSetL))) : DS X cm E ks (.Assign [.Subscript o k tpos] e pos) (sPut i f fk) := by
  obtain ⟨te, a1, a2⟩ := h1.ex
  obtain ⟨ti, b1, b2⟩ := hk.ex
  refine ⟨_, hps te ti a1 b1, fun W0 H σ r fps gd D hp => a2 W0 H σ r fps gd _ ?_⟩
  unfold sPut at hp
  split at hp
  · rename_i pp hr
    rw [hr]
    intro v H1 f1 p1 g1 k1 n1 w1 m1
    split at hp
    · rename_i d0 hd0
      obtain ⟨v0, q1, q2⟩ := g1.sl i d0 hd0
      refine ⟨v0, q1, b2 (Wp W0 p1) H1 σ pp.2 f1 g1 _ ?_⟩
      split at hp
      · rename_i qq hq
        rw [hq]
        intro u H2 f2 p2 g2 k2 n2 w2 m2
        split at hp
        · rename_i kk ds hk1 hk2
          split at hp
          · rename_i j hj
            rw [hk1] at k2
            cases k2
            rw [wp_nil] at g2
            obtain ⟨v1, e1, e2⟩ := g2.sl i _ hk2
            rw [q1] at e1
            cases e1
            obtain ⟨pa, vs, fp, rfl, hpa, hfp, hrr⟩ := e2.lstOf
            refine ⟨pa, vs, kk, j, rfl, rfl, hpa, by rw [hrr.len]; exact hj, ?_⟩
            have kv : Rep cm (Wof (Wp W0 []) f2) H2 v (frz pp.1) [] := by
              have k1' := k1.over (fq := []) (fun i a m z => g1.nw i a m (.inr z)) m2
              rw [List.append_nil] at k1'
              rw [wp_nil]
              exact k1'.open g2 w1 fun _ m => m
            have g2' : Good cm (Wp W0 []) H2 σ qq.2 f2 := by rw [wp_nil]; exact g2.drop
            have hrr' : Reps cm (Wof (Wp W0 []) f2) H2 vs ds fp := hrr.move (fun a z => .inl (by rw [wp_nil] at z; exact z.imp .inl id)) fun _ _ q _ _ => q
            obtain ⟨fp', hs1, hs2⟩ := Reps.set kv j hrr'
            have hmem : pa ∈ f2 i := by rw [hfp]; exact List.mem_cons_self ..
            have hsub : ∀ a ∈ fp', a ∈ f2 i ∨ a ∈ ([] : List Addr) := fun a m => .inl (by rw [hfp]; exact List.mem_cons_of_mem _ (hs2.mem m))
            have nd1 := g2.nd i
            rw [hfp] at nd1
            have nd2 := List.nodup_cons.mp nd1
            have g3 := g2'.mut q1 ⟨_, hpa⟩ hmem hs1 hsub (fun m => nd2.1 (hs2.mem m)) (nd2.2.sublist hs2) (fun _ m => (nomatch m))
            exact hp σ _ _ g3 (((m1.trans m2).addv (v2 := []) fun _ m => (nomatch m)).mut hmem ⟨_, hpa, rfl⟩ hsub) (Keep.refl ks σ)
          · exact hp.elim
        · exact hp.elim
      · rename_i x r' hq
        rw [hq]
        exact fun H' fps' dx g' fm xr => hp σ H' fps' dx g'.drop ((m1.trans fm).addv fun _ m => (nomatch m)) (Keep.refl ks σ) (xr.weak fun a z => z.imp .inl id)
      · exact hp.elim
    · exact hp.elim
  · rename_i x r' hr
    rw [hr]
    exact fun H' fps' dx g' fm xr => hp σ H' fps' dx g' fm (Keep.refl ks σ) xr
  · exact hp.elim
end
end DL

namespace DL
variable [Tbs]
open PySem L2
def teX (cm : Cm) (E : XS) (f : FX) : TE := fun σ H Q => ∃ W0 r fps, Good cm W0 H σ r fps ∧ Post (f r) (QX cm W0 H σ fps Q) (XX cm E W0 H σ fps)
def ttX (cm : Cm) (E : XS) (f : Env → Out (Bool × Env)) : TT := fun σ H Q => ∃ W0 r fps, Good cm W0 H σ r fps ∧ Post (f r) (QXT cm W0 H σ fps Q) (XX cm E W0 H σ fps)
def tgX (cm : Cm) (ks : Nat → Bool) (g : D → Env → Out Env) : TG := fun v σ H Q => ∃ W0 r fps d, Good cm W0 H σ r fps ∧ Rep cm (Wof W0 fps) H v d [] ∧ Post (g d r) (fun r' => ∀ σ' fps', Good cm W0 H σ' r' fps' → (∀ j a, a ∈ fps' j → a ∈ fps j) → Keep ks σ σ' → Q σ' H) noX
section
variable {X : Cx} {cm : Cm} {E : XS} {b : Bool} {pos p : Pos} {ks : Nat → Bool} {a c e tg : Expr} {es : List Expr} {f h : FX} {g : FS}
theorem XE.pe (h : XE X cm E e f) : PE X e (teX cm E f) := by
  obtain ⟨te, h1, h2⟩ := h.ex
  exact ⟨fun pins s σ H Q I ⟨W0, r, fps, gd, hp⟩ => h1.run pins s σ H Q I (h2 W0 H σ r fps gd Q hp)⟩
theorem XG.pg {gg : D → Env → Out Env} (h : XG X cm ks tg gg) : PG X tg (tgX cm ks gg) := by
  obtain ⟨t, a1, a2⟩ := h.ex
  exact ⟨fun pins s σ H v u Q I r ⟨W0, rr, fps, d, gd, rp, hp⟩ => a1.run pins s σ H v u Q I r (a2 W0 H σ rr fps v d gd rp Q hp)⟩
structure XTs (X : Cx) (cm : Cm) (E : XS) (es : List Expr) (f : Env → Out (Bool × Env)) : Prop where
  ex : ∃ te, PTs X es te ∧ ∀ W0 H σ r fps, Good cm W0 H σ r fps → ∀ Q, Post (f r) (QXT cm W0 H σ fps Q) (XX cm E W0 H σ fps) → te σ H Q
def xYes : Env → Out (Bool × Env) := fun r => .ok (true, r)
theorem xts_nil : XTs X cm E [] xYes := ⟨_, pts_nil, fun W0 H σ r fps gd Q hp => hp H fps gd (Fram.refl H fps)⟩
theorem XTs.pts {t : Env → Out (Bool × Env)} (h : XTs X cm E es t) : PTs X es (ttX cm E t) := by
  obtain ⟨te, h1, h2⟩ := h.ex
  exact ⟨fun pins s σ H Q I ⟨W0, r, fps, gd, hp⟩ => h1.run pins s σ H Q I (h2 W0 H σ r fps gd Q hp)⟩
def xturns (gg : D → Env → Out Env) (tt : Env → Out (Bool × Env)) (el : FX) : List D → Env → Out (List D × Env)
  | [], r => .ok ([], r)
  | d :: ds, r => (gg d r).bind fun r1 => (tt r1).bind fun q => if q.1 = true then (el q.2).bind fun y => (xturns gg tt el ds y.2).bind fun z => .ok (y.1 :: z.1, z.2) else xturns gg tt el ds q.2
def xLc (it : Env → Out (List D × Env)) (vs : List Nat) (gg : D → Env → Out Env) (tt : Env → Out (Bool × Env)) (el : FX) : FX := fun r => (it r).bind fun p => if p.1.length ≤ 1000000 then (safe (xturns (fun d r => gg d (wipeE r vs)) tt el p.1 p.2)).bind fun q => .ok (.lst true q.1, wipeE q.2 vs) else .bad
theorem wipeE_len (r : Env) : ∀ vs : List Nat, (wipeE r vs).length = r.length
  | [] => rfl
  | v :: vs => by show ((wipeE r vs).set v none).length = _; rw [List.length_set, wipeE_len r vs]
theorem wipeE_some {r : Env} {i : Nat} {d : D} : ∀ {vs : List Nat}, (wipeE r vs)[i]? = some (some d) → r[i]? = some (some d) ∧ i ∉ vs
  | [], h => ⟨h, by simp⟩
  | v :: vs, h => by
    have h : ((wipeE r vs).set v none)[i]? = some (some d) := h
    rw [List.getElem?_set] at h
    by_cases e : v = i
    · rw [if_pos e] at h
      split at h <;> cases h
    · rw [if_neg e] at h
      obtain ⟨h1, h2⟩ := wipeE_some h
      exact ⟨h1, fun m => (List.mem_cons.mp m).elim (fun z => e z.symm) h2⟩
theorem wipeE_get : ∀ (vs : List Nat) (r : Env) (j : Nat), (wipeE r vs)[j]? = if j ∈ vs ∧ j < r.length then some none else r[j]?
  | [], r, j => by simp [wipeE]
  | v :: vs, r, j => by
    show ((wipeE r vs).set v none)[j]? = _
    rw [List.getElem?_set, wipeE_len]
    by_cases e : v = j
    · subst e
      simp
      split
      · rfl
      · rw [List.getElem?_eq_none (by omega)]
    · rw [if_neg e, wipeE_get vs r j]
      have : j ≠ v := fun z => e z.symm
      simp [this]
theorem wipeE_wipeE (r : Env) (vs : List Nat) : wipeE (wipeE r vs) vs = wipeE r vs := by
  apply List.ext_getElem?
  intro j
  rw [wipeE_get, wipeE_len]
  by_cases h : j ∈ vs ∧ j < r.length
  · rw [if_pos h, wipeE_get, if_pos h]
  · rw [if_neg h]
theorem wipe_get {σ : St} {i : Nat} : ∀ {vs : List Nat}, i ∉ vs → (wipe σ vs)[i]? = σ[i]?
  | [], _ => rfl
  | v :: vs, h => by
    show ((wipe σ vs).set v none)[i]? = _
    rw [List.getElem?_set, if_neg (fun z => h (by simp [z]))]
    exact wipe_get fun m => h (by simp [m])
theorem Good.wipeL {W0 : Addr → Prop} {H : Hp} {σ : St} {r : Env} {fps : Fps} (g : Good cm W0 H σ r fps) (vs : List Nat) : Good cm W0 H (wipe σ vs) (wipeE r vs) fps :=
  ⟨by rw [wipe_length, wipeE_len, g.len], g.w0, fun i d q => by
    obtain ⟨h1, h2⟩ := wipeE_some q
    obtain ⟨v, k1, k2⟩ := g.sl i d h1
    exact ⟨v, by rw [wipe_get h2]; exact k1, k2⟩, g.nd, g.dj, g.nw, g.mu⟩
theorem Good.unwipe {W0 : Addr → Prop} {H : Hp} {σ : St} {r : Env} {fps : Fps} {vs : List Nat} (g : Good cm W0 H (wipe σ vs) r fps) : Good cm W0 H σ (wipeE r vs) fps :=
  ⟨by rw [wipeE_len, ← g.len, wipe_length], g.w0, fun i d q => by
    obtain ⟨h1, h2⟩ := wipeE_some q
    obtain ⟨v, k1, k2⟩ := g.sl i d h1
    exact ⟨v, by rw [wipe_get h2] at k1; exact k1, k2⟩, g.nd, g.dj, g.nw, g.mu⟩
theorem wipe_keep {σ σ' : St} {vs : List Nat} (k : Keep (kx vs) (wipe σ vs) σ') : wipe σ' vs = wipe σ vs := by
  have hl : σ'.length = σ.length := by rw [k.1, wipe_length]
  apply List.ext_getElem?
  intro i
  by_cases hi : i < σ.length
  · by_cases hv : i ∈ vs
    · have gen : ∀ (τ : St) (us : List Nat), i < τ.length → i ∈ us → (wipe τ us)[i]? = some none := by
        intro τ us ht
        induction us with
        | nil => intro h; cases h
        | cons u us ih =>
          intro h
          show ((wipe τ us).set u none)[i]? = _
          rw [List.getElem?_set]
          by_cases e : u = i
          · rw [if_pos e, wipe_length, if_pos (by rw [e]; exact ht)]
          · rw [if_neg e]
            exact ih ((List.mem_cons.mp h).resolve_left fun z => e z.symm)
      rw [gen σ' vs (by rw [hl]; exact hi) hv, gen σ vs hi hv]
    · rw [wipe_get hv, k.2 i (by simp [hv])]
  · rw [List.getElem?_eq_none (by rw [wipe_length, hl]; omega), List.getElem?_eq_none (by rw [wipe_length]; omega)]
theorem Good.same {W0 : Addr → Prop} {H : Hp} {σ σ2 : St} {r : Env} {fps : Fps} {vs : List Nat} (g : Good cm W0 H σ2 r fps) (h : wipe σ2 vs = wipe σ vs) : Good cm W0 H (wipe σ vs) (wipeE r vs) fps := by
  rw [← h]
  exact g.wipeL vs
abbrev Xcon (cm : Cm) (E : XS) (te : TE) (f : FX) : Prop := ∀ W0 H σ r fps, Good cm W0 H σ r fps → ∀ Q, Post (f r) (QX cm W0 H σ fps Q) (XX cm E W0 H σ fps) → te σ H Q
theorem xlc_con {ts : List Nat} {it : Env → Out (List D × Env)} {gg : D → Env → Out Env} {tt : Env → Out (Bool × Env)} {el : FX} {wi : TI} (i2 : ∀ W0 H σ r fps, Good cm W0 H σ r fps → ∀ R, Post (it r) (fun p => ∀ J H1 f1, Good cm W0 H1 σ p.2 f1 → Fram H fps H1 f1 [] → IsIt cm J p.1 (Wof W0 f1) H1 → R J H1) (XX cm E W0 H σ fps) → wi σ H R) :
    Xcon cm E (tLc wi (tgX cm (kx ts) gg) (ttX cm E0' tt) (teX cm E0' el) ts) (xLc it ts gg tt el) := by
  intro W0 H σ r fps gd Q hp
  refine i2 W0 H σ r fps gd _ (hp.bind.mono (fun pp q J H1 f1 g1 fm1 isit => ?_) fun _ _ z => z)
  obtain ⟨ds, r1⟩ := pp
  split at q
  case isFalse => exact q.elim
  rename_i hlen
  intro Dl hD
  have q := (Post.bind q).safe
  have eN := Ex.new (o := .lst []) hD
  have g0 : Good cm (Wp W0 [Dl]) (upd H1 Dl (.lst [])) (wipe σ ts) (wipeE r1 ts) f1 := (g1.wipeL ts).addv eN (fun a m => by rw [List.mem_singleton.mp m]; exact hD) fun a m => by rw [List.mem_singleton.mp m]; exact ⟨_, upd_same, rfl⟩
  have fm0 : Fram H1 f1 (upd H1 Dl (.lst [])) f1 [Dl] := Fram.of_ex eN fun a m => by rw [List.mem_singleton.mp m]; exact hD
  let I : Nat → Hp → Prop := fun i H' => ∃ r' f' ys vs fp, ys.length ≤ i ∧ Good cm (Wp W0 (Dl :: fp)) H' (wipe σ ts) (wipeE r' ts) f' ∧ H' Dl = some (.lst vs) ∧ Reps cm (Wof (Wp W0 (Dl :: fp)) f') H' vs ys fp ∧ (Dl :: fp).Nodup ∧ (∀ a ∈ Dl :: fp, ¬ W0 a) ∧ Fram H1 f1 H' f' (Dl :: fp) ∧
      Post (xturns (fun d r => gg d (wipeE r ts)) tt el (ds.drop i) r') (fun z => QX cm W0 H σ fps Q (.lst true (ys ++ z.1), wipeE z.2 ts)) noX
  refine ⟨fun i m H' => m = ds.length - i ∧ i ≤ ds.length ∧ I i H', ⟨ds.length, by simp, Nat.zero_le _, r1, f1, [], [], [], Nat.le_refl _, g0, upd_same, .nil, by simp, fun a m => by rw [List.mem_singleton.mp m]; exact g1.w0.fresh hD, fm0, q⟩, ?_⟩
  rintro i m H' ⟨rfl, hi, r', f', ys, vs, fp, hy, g', hDl, hr, hnd, hnw, fm', hq⟩
  have hl : Later cm (Wof W0 f1) H1 (Wof (Wp W0 (Dl :: fp)) f') H' := ⟨fun a z => by
    rcases z with (z | z) | ⟨j, z⟩
    · exact .inl (.inl z)
    · exact (fm'.oldv a z).imp (fun ⟨j, m⟩ => .inr ⟨j, m⟩) id
    · exact (fm'.old j a z).imp (fun ⟨j, m⟩ => .inr ⟨j, m⟩) id, fun a o q n t => fm'.keep a o q (fun j m => n (.inr ⟨j, m⟩)) t, g'.wof⟩
  by_cases hlt : i < ds.length
  · right
    obtain ⟨d, hd⟩ : ∃ d, ds[i]? = some d := ⟨ds[i], by simp [hlt]⟩
    obtain ⟨go, yl⟩ := (isit _ H' i hl).1 d hd
    refine ⟨go, I (i + 1), fun H5 h5 => ⟨ds.length - (i + 1), by omega, rfl, hlt, h5⟩, fun x H3 y => ?_⟩
    obtain ⟨e3, r3⟩ := yl x H3 y
    have hdrop : ds.drop i = d :: ds.drop (i + 1) := by
      rw [List.drop_eq_getElem_cons hlt]
      congr 1
      have := List.getElem?_eq_getElem hlt
      rw [this] at hd
      exact Option.some.inj hd
    rw [hdrop] at hq
    have hq := Post.bind hq
    have g3 := g'.ex e3
    have fm3 : Fram H1 f1 H3 f' (Dl :: fp) := (fm'.trans (Fram.of_ex (fpv := []) e3 fun _ m => (nomatch m))).addv fm'.oldv
    refine ⟨_, wipeE r' ts, f', d, g3, r3, hq.mono (fun r2 q2 σ2 f2 g2 s2 k2 => ?_) fun _ _ z => z⟩
    have hw := wipe_keep k2
    refine ⟨hw, ?_⟩
    have fm2 : Fram H1 f1 H3 f2 (Dl :: fp) := ⟨@Fram.keep _ _ _ _ _ _ fm3, fun j a m => fm3.old j a (s2 j a m), fm3.oldv, fm3.back, fm3.tb⟩
    have hr2 : Reps cm (Wof (Wp W0 (Dl :: fp)) f2) H3 vs ys fp := (hr.ex e3).move (fun a z => .inl (z.imp id fun ⟨j, m⟩ => ⟨j, s2 j a m⟩)) fun _ _ q _ _ => q
    have hD3 : H3 Dl = some (.lst vs) := e3 _ _ hDl
    refine ⟨_, r2, f2, g2, (Post.bind q2).mono (fun bb q3 H4 f4 g4 m4 => ?_) fun _ _ z => z.elim⟩
    obtain ⟨bb, r4⟩ := bb
    have nDl : ∀ {HH : Hp} {ff : Fps} {rr : Env} {ss : St} {pp : List Addr}, Good cm (Wp (Wp W0 (Dl :: fp)) pp) HH ss rr ff → ∀ j, Dl ∉ ff j := fun g j m => g.nw j Dl m (.inl (.inr (List.mem_cons_self ..)))
    have nDl' : ∀ {HH : Hp} {ff : Fps} {rr : Env} {ss : St}, Good cm (Wp W0 (Dl :: fp)) HH ss rr ff → ∀ j, ∀ a ∈ Dl :: fp, a ∉ ff j := fun g j a ha m => g.nw j a m (.inr ha)
    have hr4 : Reps cm (Wof (Wp W0 (Dl :: fp)) f4) H4 vs ys fp := hr2.move (fun a z => by
      rcases z with z | ⟨j, m⟩
      · exact .inl (.inl z)
      · exact (m4.old j a m).imp (fun ⟨j, m⟩ => .inr ⟨j, m⟩) id) fun a o q t c => m4.keep a o q (t := t) fun j m => by
        rcases c with c | c
        · exact c (.inr ⟨j, m⟩)
        · exact nDl' g2 j a (List.mem_cons_of_mem _ c) m
    have hD4 : H4 Dl = some (.lst vs) := m4.keep _ _ hD3 fun j m => nDl' g2 j Dl (List.mem_cons_self ..) m
    have fm4 : Fram H1 f1 H4 f4 (Dl :: fp) := (fm2.trans m4).addv fm2.oldv
    cases bb with
    | false =>
      exact ⟨r4, f4, ys, vs, fp, by omega, g4.same hw, hD4, hr4, hnd, hnw, fm4, q3⟩
    | true =>
      refine ⟨_, r4, f4, g4, (Post.bind (o := el r4) q3).mono (fun yy q5 v5 H5 f5 p5 g5 k5 n5 w5 m5 => ?_) fun _ _ z => z.elim⟩
      obtain ⟨y5, r5⟩ := yy
      have hD5 : H5 Dl = some (.lst vs) := m5.keep _ _ hD4 fun j m => nDl' g4 j Dl (List.mem_cons_self ..) m
      have hvl := hr.len
      refine ⟨vs, hD5, Nat.lt_of_lt_of_le (show vs.length < 1000000 by have : ds.length ≤ 1000000 := hlen; omega) (by decide), ?_⟩
      have hr5 : Reps cm (Wof (Wp (Wp W0 (Dl :: fp)) p5) f5) H5 vs ys fp := hr4.move (fun a z => by
        rcases z with (z | z) | ⟨j, m⟩
        · exact .inl (.inl z)
        · exact (m5.oldv a z).imp (fun ⟨j, m⟩ => .inr ⟨j, m⟩) id
        · exact (m5.old j a m).imp (fun ⟨j, m⟩ => .inr ⟨j, m⟩) id) fun a o q t c => m5.keep a o q (t := t) fun j m => by
          rcases c with c | c
          · exact c (.inr ⟨j, m⟩)
          · exact nDl' g4 j a (List.mem_cons_of_mem _ c) m
      have hnp : ∀ a ∈ p5, a ∉ Dl :: fp := fun a m z => w5 a m (.inr z)
      have all : Reps cm (Wof (Wp (Wp W0 (Dl :: fp)) p5) f5) H5 (vs ++ [v5]) (ys ++ [y5]) (fp ++ p5) := Reps.app hr5 (Reps.one k5)
      have ew : Wp (Wp W0 (Dl :: fp)) p5 = Wp W0 (Dl :: (fp ++ p5)) := by rw [wp_wp]; rfl
      have nod : (Dl :: (fp ++ p5)).Nodup := by
        have h1 := List.nodup_cons.mp hnd
        exact List.nodup_cons.mpr ⟨fun m => (List.mem_append.mp m).elim h1.1 fun m => hnp _ m (List.mem_cons_self ..), List.nodup_append.mpr ⟨h1.2, n5, fun a m c m' z => hnp c m' (z ▸ List.mem_cons_of_mem _ m)⟩⟩
      have keepU : ∀ (a : Addr) (o : HO), H5 a = some o → a ≠ Dl → upd H5 Dl (.lst (vs ++ [v5])) a = some o := fun a o q n => by rw [upd_ne n]; exact q
      have g6 : Good cm (Wp W0 (Dl :: (fp ++ p5))) (upd H5 Dl (.lst (vs ++ [v5]))) σ2 r5 f5 := by
        rw [← ew]
        refine ⟨g5.len, ⟨fun a z => ?_, Tabs.updM g5.w0.2 ⟨_, hD5, rfl⟩⟩, fun j d' hj => ?_, g5.nd, g5.dj, g5.nw, fun j a m => ?_⟩
        · by_cases e : a = Dl
          · subst e; exact ⟨_, upd_same, rfl⟩
          · obtain ⟨o, h1, h2⟩ := g5.w0.1 a z
            exact ⟨o, keepU a o h1 e, h2⟩
        · obtain ⟨u, e1, e2⟩ := g5.sl j d' hj
          refine ⟨u, e1, e2.move (fun a z => .inl z) fun a o q t c => keepU a o q ?_⟩
          rcases c with c | c
          · exact fun z => c (.inl (.inl (.inr (z ▸ List.mem_cons_self ..))))
          · exact fun z => nDl g5 j (z ▸ c)
        · obtain ⟨o, h1, h2⟩ := g5.mu j a m
          exact ⟨o, keepU a o h1 fun z => nDl g5 j (z ▸ m), h2⟩
      have m45 : Fram H1 f1 H5 f5 (Dl :: (fp ++ p5)) := (fm4.trans m5).addv fun a m => by
        rcases List.mem_cons.mp m with rfl | m
        · exact fm4.oldv _ (List.mem_cons_self ..)
        · rcases List.mem_append.mp m with m | m
          · exact fm4.oldv a (List.mem_cons_of_mem _ m)
          · exact (fm4.trans m5).oldv a m
      refine ⟨r5, f5, ys ++ [y5], vs ++ [v5], fp ++ p5, by simp; omega, g6.same hw, upd_same, ?_, nod, fun a m => ?_, ⟨fun a o q n t => ?_, m45.old, m45.oldv, fun a q => ?_, fun h => Tabs.updM (m45.tb h) ⟨_, hD5, rfl⟩⟩, ?_⟩
      · rw [← ew]
        refine all.move (fun a z => .inl z) fun a o q t c => keepU a o q ?_
        rcases c with c | c
        · exact fun z => c (.inl (.inl (.inr (z ▸ List.mem_cons_self ..))))
        · intro z
          subst z
          exact (List.nodup_cons.mp nod).1 c
      · rcases List.mem_cons.mp m with rfl | m
        · exact hnw _ (List.mem_cons_self ..)
        · rcases List.mem_append.mp m with m | m
          · exact hnw a (List.mem_cons_of_mem _ m)
          · exact fun z => w5 a m (.inl z)
      · exact keepU a o (m45.keep a o q n t) fun z => by
          subst z
          rcases fm0.oldv a (by simp) with ⟨j, m⟩ | z
          · exact n j m
          · rw [q] at z; cases z
      · by_cases e : a = Dl
        · subst e; rw [upd_same] at q; cases q
        · rw [upd_ne e] at q; exact m45.back a q
      · refine (Post.bind q5).mono (fun z zz => ?_) fun _ _ z => z
        rw [List.append_assoc]
        exact zz
  · left
    have e : i = ds.length := by omega
    subst e
    refine ⟨(isit _ H' _ hl).2 (by simp), ?_⟩
    rw [List.drop_length] at hq
    have hq : QX cm W0 H σ fps Q (.lst true (ys ++ []), wipeE r' ts) := hq
    rw [List.append_nil] at hq
    have gf : Good cm (Wp W0 (Dl :: fp)) H' σ (wipeE r' ts) f' := by
      have h1 := g'.unwipe
      rw [wipeE_wipeE] at h1
      exact h1
    exact hq (.ref Dl) H' f' (Dl :: fp) gf (.lstO hDl hr) hnd hnw ((fm1.trans fm').addv fun a m => by
      rcases fm'.oldv a m with ⟨j, m⟩ | z
      · exact fm1.old j a m
      · exact .inr (fm1.back a z))
theorem xe_lc {elt iter : Expr} {ifs : List Expr} {scope : Scope} {own : List (Str × Nat)} {ts : List Nat} {it : Env → Out (List D × Env)} {gg : D → Env → Out Env} {tt : Env → Out (Bool × Env)} {el : FX} (hc : X.calm = true) (hN : X.N.Nodup) (hi : XI X cm E tg iter it) (ok : BlkOk X.N X.env.scope scope own) (hts : own.map (·.2) = ts)
    (hg : ∀ (s : Shared) (H : Hp) (C : Addr) (cl : List (Str × Addr)) (fp : List Addr), XG (X.blk s H scope (compEnvC scope cl C X.env) fp) cm (kx ts) tg gg) (ht : ∀ (s : Shared) (H : Hp) (C : Addr) (cl : List (Str × Addr)) (fp : List Addr), XTs (X.blk s H scope (compEnvC scope cl C X.env) fp) cm E0' ifs tt)
    (he : ∀ (s : Shared) (H : Hp) (C : Addr) (cl : List (Str × Addr)) (fp : List Addr), XE (X.blk s H scope (compEnvC scope cl C X.env) fp) cm E0' elt el) (hs : ∀ x, foldedSetIterable iter X.env x = pure x := by intro _; rfl) :
    XE X cm E (.ListComp elt [⟨tg, iter, ifs, 0⟩] scope pos) (xLc it ts gg tt el) := by
  obtain ⟨wi, i1, i2⟩ := hi.ex
  refine ⟨_, pe_lc hc hN i1 ok (fun s H C cl fp => (hg s H C cl fp).pg) (fun s H C cl fp => (ht s H C cl fp).pts) (fun s H C cl fp => (he s H C cl fp).pe) hs, ?_⟩
  rw [hts]
  exact xlc_con i2
theorem ds_setLc (i : Nat) {y : Str} {py spos : Pos} {elt iter : Expr} {ifs : List Expr} {scope : Scope} {own : List (Str × Nat)} {ts : List Nat} {it : Env → Out (List D × Env)} {gg : D → Env → Out Env} {tt : Env → Out (Bool × Env)} {el : FX} (hc : X.calm = true) (hN : X.N.Nodup) (hi : XI X cm E tg iter it) (ok : BlkOk X.N X.env.scope scope own) (hts : own.map (·.2) = ts)
    (hg : ∀ (s : Shared) (H : Hp) (C : Addr) (cl : List (Str × Addr)) (fp : List Addr), XG (X.blk s H scope (compEnvC scope cl C X.env) fp) cm (kx ts) tg gg) (ht : ∀ (s : Shared) (H : Hp) (C : Addr) (cl : List (Str × Addr)) (fp : List Addr), XTs (X.blk s H scope (compEnvC scope cl C X.env) fp) cm E0' ifs tt)
    (he : ∀ (s : Shared) (H : Hp) (C : Addr) (cl : List (Str × Addr)) (fp : List Addr), XE (X.blk s H scope (compEnvC scope cl C X.env) fp) cm E0' elt el) (hsw : swapsWith (.ListComp elt [⟨tg, iter, ifs, 0⟩] scope pos) (some (.Name y py)) spos.line X.env = pure true) (hk : ks i = false := by rfl) (hy : X.N[i]? = some y := by rfl) (hyl : X.env.scope.names.lookup y = some .local := by rfl) (hs : ∀ x, foldedSetIterable iter X.env x = pure x := by intro _; rfl) :
    DS X cm E ks (.Assign [.Name y py] (.ListComp elt [⟨tg, iter, ifs, 0⟩] scope pos) spos) (sSet i (xLc it ts gg tt el)) := by
  obtain ⟨wi, i1, i2⟩ := hi.ex
  refine ⟨_, ps_setLc hc hN hy hyl hsw i1 ok (fun s H C cl fp => (hg s H C cl fp).pg) (fun s H C cl fp => (ht s H C cl fp).pts) (fun s H C cl fp => (he s H C cl fp).pe) hs, ?_⟩
  rw [hts]
  exact setCon hk (xlc_con i2)
theorem ds_setLcP (i : Nat) (ns : List Nat) {y : Str} {py spos : Pos} {elt iter : Expr} {ifs : List Expr} {scope : Scope} {own : List (Str × Nat)} {ts : List Nat} {it : Env → Out (List D)} {gg : D → Env → Out Env} {tt : Env → Out Bool} {el : F} (hc : X.calm = true) (hN : X.N.Nodup) (hi : DI X cm E tg iter it) (ok : BlkOk X.N X.env.scope scope own) (hts : own.map (·.2) = ts)
    (hg : ∀ (s : Shared) (H : Hp) (C : Addr) (cl : List (Str × Addr)) (fp : List Addr), DG (X.blk s H scope (compEnvC scope cl C X.env) fp) cm tg ts gg) (ht : ∀ (s : Shared) (H : Hp) (C : Addr) (cl : List (Str × Addr)) (fp : List Addr), DTs (X.blk s H scope (compEnvC scope cl C X.env) fp) cm E0' ifs tt)
    (he : ∀ (s : Shared) (H : Hp) (C : Addr) (cl : List (Str × Addr)) (fp : List Addr), DE (X.blk s H scope (compEnvC scope cl C X.env) fp) cm E0' true elt el) (hsw : swapsWith (.ListComp elt [⟨tg, iter, ifs, 0⟩] scope pos) (some (.Name y py)) spos.line X.env = pure true) (hk : ks i = false := by rfl) (hy : X.N[i]? = some y := by rfl) (hyl : X.env.scope.names.lookup y = some .local := by rfl) (hs : ∀ x, foldedSetIterable iter X.env x = pure x := by intro _; rfl) :
    DS X cm E ks (.Assign [.Name y py] (.ListComp elt [⟨tg, iter, ifs, 0⟩] scope pos) spos) (sSet i (lift ns (cLc it ts gg tt el))) := by
  obtain ⟨wi, i1, i2⟩ := hi.ex
  refine ⟨_, ps_setLc hc hN hy hyl hsw i1 ok (fun s H C cl fp => (hg s H C cl fp).pg) (fun s H C cl fp => (ht s H C cl fp).pts) (fun s H C cl fp => (he s H C cl fp).pe) hs, ?_⟩
  rw [hts]
  refine setCon hk fun W0 H σ r fps g Q hp => ?_
  have h2 := lc_con (tt := tt) (el := el) (g := gg) (ts := ts) i2
  refine h2 (Wr W0 fps ns) H σ (view ns r) (g.wr ns) (g.view ns) Q ?_
  unfold lift at hp
  split at hp
  · rename_i d hd
    rw [hd]
    intro v H' fpv e1 rp fn
    obtain ⟨fps', g', rp', hw, fm⟩ := g.settle ns e1 (Reps.one rp) fn
    have hs : shrs [d] = shr d := by simp [shrs]
    rw [hs] at g'
    exact hp v H' fps' fpv g' rp'.the fn.1 hw fm
  · rename_i x r' hd
    rw [hd]
    exact XX.of_x g ns hp r'
  · exact hp.elim
end
end DL

set_option maxHeartbeats 4000000
namespace DL
variable [Tbs]
open PySem L2 PySem.Spec PyProof.Rows
open AutoSeq1 (wpAny_loadPart')
open PyProof.Rows (envOfC)
section
variable {X : Cx} {cm : Cm} {E : XS} {b : Bool} {pos p : Pos} {a c e : Expr} {fa fb : DL.F}
def gMulT : D → D → Out D := fun x y => match x, y with
  | .tup u, .int n => if u ≠ [] ∧ u.length ≤ 1000 ∧ 1 ≤ n ∧ n ≤ 1000 then .ok (.tup (List.replicate n.toNat u).flatten) else .bad
  | _, _ => .bad
instance instNil (u : List D) : Decidable (u ≠ []) := by
  cases u with
  | nil => exact isFalse fun h => h rfl
  | cons a b => exact isTrue fun h => nomatch h
theorem de_globI {x : Str} {i : Int} (h : ∃ t, X.mg x = some (.int i t)) (hg : Gl X x := by rfl) (hd : (x == ("__debug__" : Str)) = false := by decide) : DE X cm E b (.Name x pos) (cK (.int i)) := by
  obtain ⟨t, h⟩ := h
  exact de_con (v := .int i) (pe_glob (v := .int i) hg h ⟨t, rfl⟩ hd) fun _ _ => .int i
theorem de_globS {x : Str} {cs : List Nat} (h : ∃ t, X.mg x = some (.str ⟨cs.toArray⟩ t)) (hg : Gl X x := by rfl) (hd : (x == ("__debug__" : Str)) = false := by decide) : DE X cm E b (.Name x pos) (cK (.str cs)) := by
  obtain ⟨t, h⟩ := h
  exact de_con (v := .str ⟨cs.toArray⟩) (pe_glob (v := .str ⟨cs.toArray⟩) hg h ⟨t, rfl⟩ hd) fun _ _ => .str cs
theorem pxB {P : Program} {w : World} {K : PySem.W.Frag} {mg : Str → Option Value} {base : Heap} {N : List Str} {qual : Str} {sc : Scope} {f : Addr} {cdv : Value} {A : Around} {outer : List PySem.Env} {s : Shared} {H : Hp} {E : XK} : PassG (cxB P w K mg base N qual sc f cdv A outer s H E) (fun _ => E) :=
  fun σ => passAt (X := cxB P w K mg base N qual sc f cdv A outer s H E) (W := fun cls d _ H => E cls d H) (takes_of rfl rfl rfl rfl) σ
theorem poB {P : Program} {w : World} {K : PySem.W.Frag} {mg : Str → Option Value} {base : Heap} {N : List Str} {qual : Str} {sc : Scope} {f : Addr} {cdv : Value} {A : Around} {outer : List PySem.Env} {s : Shared} {H : Hp} {E : XK} : PassesOwn (model P w) (cxB P w K mg base N qual sc f cdv A outer s H E).A (cxB P w K mg base N qual sc f cdv A outer s H E).env (cxB P w K mg base N qual sc f cdv A outer s H E).xe :=
  passes_of (X := cxB P w K mg base N qual sc f cdv A outer s H E) rfl
structure CallOk (P : Program) (w : World) (K : PySem.W.Frag) (mg : Str → Option Value) (base : Heap) (x : Str) (k : Nat) (ps : List Str) (sp : Sp) : Prop where
  ex : ∃ f fd, FnG P w K mg base k f fd ps sp ∧ mg x = some (.ref f) ∧ PySem.W.keepIn K (.ref f) = true ∧ Binds K fd ps []
variable {x : Str} {k n : Nat} {ps : List Str} {m : List D → Out D} {es : List Expr}
def chk (n : Nat) (m : List D → Out D) : List D → Out D := fun ds => if ds.length = n then m ds else .bad
theorem de_fn {fs : DL.Env → Out (List D)} (C : CallOk X.prog X.w X.K X.mg X.base x k ps (spP cm n m)) (hr : RoomG k X.A) (hx : PassG X E) (ha : DA X cm E false (e :: es) fs) (hg : Gl X x := by rfl) (hn : ps.length = n := by rfl) (hdb : (x == ("__debug__" : Str)) = false := by decide)
    (he : starEach (e :: es) X.env = (false, eval e X.env) :: starEach es X.env := by rfl) (hpl : (backTo pos (starEach es X.env)).any (·.1) = false := by rfl) : DE X cm E true (.Call (.Name x p) (e :: es) [] pos) (cA (chk n m) fs) := by
  obtain ⟨f, fd, h1, h2, h3, h4⟩ := C.ex
  exact de_call h1 hr hg h2 h3 h4 hx ha hn hdb he hpl
theorem xe_fio {mm : List D → Out (D × D)} (i : Nat) {fs : DL.Env → Out (List D × DL.Env)} (C : CallOk X.prog X.w X.K X.mg X.base x k ps (spX cm n mm)) (hr : RoomG k X.A) (hx : PassG X E) (hv : PE X e (tVar i)) (ha : XA X cm E es fs) (hg : Gl X x := by rfl) (hdb : (x == ("__debug__" : Str)) = false := by decide)
    (he : starEach (e :: es) X.env = (false, eval e X.env) :: starEach es X.env := by rfl) (hpl : (backTo pos (starEach es X.env)).any (·.1) = false := by rfl) : XE X cm E (.Call (.Name x p) (e :: es) [] pos) (xIO i n mm fs) := by
  obtain ⟨f, fd, h1, h2, h3, h4⟩ := C.ex
  exact xe_io i h1 hr hg h2 h3 h4 hx hv ha hdb he hpl
theorem mk_pure {P : Program} {w : World} {K : PySem.W.Frag} {mg : Str → Option Value} {base : Heap} {qual : Str} {st : Stmt} {f : Addr} {fd : FuncData} {N : List Str} {g : FS} (Fu : Fun K x qual st f fd) (S : FnScope N ps (defScope st)) (hm : mg x = some (.ref f)) (hb : Binds K fd ps [])
    (hbody : ∀ (cdv : Value) (A : Around) (outer : List PySem.Env) (s : Shared) (H : Hp) (E : XK), RoomG k (A.deeper (envOfC qual (defScope st) s.heap.objs.size f cdv)) → DSs (cxB P w K mg base N qual (defScope st) f cdv A outer s H E) cm (fun _ => E) k0 (defBody st) g) :
    CallOk P w K mg base x (k + 1) ps (spP cm ps.length (runP ps.length N.length g)) := ⟨f, fd, fn_pure Fu S hbody, hm, Fu.kp, hb⟩
theorem mk_io {P : Program} {w : World} {K : PySem.W.Frag} {mg : Str → Option Value} {base : Heap} {qual : Str} {st : Stmt} {f : Addr} {fd : FuncData} {N : List Str} {g : FS} (Fu : Fun K x qual st f fd) (S : FnScope N ps (defScope st)) (hm : mg x = some (.ref f)) (hb : Binds K fd ps [])
    (hbody : ∀ (cdv : Value) (A : Around) (outer : List PySem.Env) (s : Shared) (H : Hp) (E : XK), RoomG k (A.deeper (envOfC qual (defScope st) s.heap.objs.size f cdv)) → DSs (cxB P w K mg base N qual (defScope st) f cdv A outer s H E) cm (fun _ => E) k1 (defBody st) g) :
    CallOk P w K mg base x (k + 1) ps (spX cm ps.length (runX ps.length N.length g)) := ⟨f, fd, fn_io Fu S hbody, hm, Fu.kp, hb⟩
end
def spLaw (K : PySem.W.Frag) : Sp := fun vs H Q _ => ∃ (a : Addr) (ns : List Int), vs = [.ref a] ∧ SqL K H a (ns.map V.int) ∧ ns.length ≤ 63 ∧ Only H ∧ ∀ H', Q (.bl true) H'
theorem sp_law {cm : Cm} {m : List D → Out D} (h : ∀ ns : List Int, ns.length ≤ 63 → m [.scr ns] = .ok (.bl true)) (hT : Tbs.T = [] := by rfl) : ∀ vs H Q E, spLaw cm.K vs H Q E → spP cm 1 m vs H Q E := by
  rintro vs H Q E ⟨a, ns, rfl, hs, hl, ho, k⟩
  have rp : Rep cm (fun _ => False) H (.ref a) (.scr ns) [] := by
    rcases hs with (hs | ⟨o, hs⟩) | hs
    · rcases ho a with q | ⟨o, xs, q⟩
      · rw [hs] at q; cases q
      · rw [hs] at q; cases q
    · exact .scrF hs fun z => z
    · exact .scrK fun H' => .inr hs
  refine ⟨fun _ => False, [.scr ns], ⟨fun _ z => z.elim, by rw [hT]; exact fun _ z => nomatch z⟩, Reps.one rp, rfl, ?_⟩
  rw [h ns hl]
  intro v H' fp e rv _
  cases rv
  exact k H'
theorem depth_ok {k : Nat} (hk : k ≤ 200) : callerA.depth + 3 * k + 5 < recursionLimit := by
  have h1 : callerA.depth ≤ 301 := by decide
  have h2 : recursionLimit = 1000 := rfl
  omega
theorem units_ok {k : Nat} (hk : k ≤ 200) : callerA.units + 16 * k + 200 < cLine := by
  have h1 : callerA.units ≤ 5000 := by decide
  have h2 : cLine = 9900 := rfl
  omega
theorem law_go {P : Program} {w : World} {K : PySem.W.Frag} {mg mb : Str → Option Value} {k : Nat} {fa a : Addr} {fd : FuncData} {x : Str} {s₁ : Shared} {vs : List Value} {ns : List Int} (hk : k ≤ 200)
    (kin : K.In s₁.heap) (hg : s₁.heap.Ns mainGlobals mg) (hb : s₁.heap.Ns builtinsNs mb) (hbb : ∀ x : Str, x ≠ "__name__" → mb x = bootBuiltins x) (hlim : s₁.heap.NoLimit) (gen0 : s₁.gens = #[])
    (ha : s₁.heap.get? a = some { cls := .type "list", data := .seq vs.toArray }) (hi : IntsAre vs ns) (hl : ns.length ≤ 63)
    (F : ∀ base : Heap, K.In base → base.Ns mainGlobals mg → FnG P w K mg base k fa fd [x] (spLaw K)) (bind : ∀ (s : Shared) (u : Value), BindsTo s fd ⟨[u], []⟩ [(x, u)]) :
    codeAny (model P w) callerA (.call (.ref fa) ⟨[.ref a], []⟩) (fun r s' => r = .ok (.ret (.bool true)) ∧ OldK s₁.heap s'.heap ∧ s'.os = s₁.os ∧ AllBare s'.gens) s₁ := by
  have hz : ns.length ≤ sizeLine := Nat.le_trans hl (by decide)
  have rv := vals_ints hi
  have main : ∀ H : Hp, Only H → SqL K H a (ns.map V.int) → HOk P w H s₁.heap → (∀ b, H b ≠ none → b = a ∧ K.lookup a = none) →
      codeAny (model P w) callerA (.call (.ref fa) ⟨[.ref a], []⟩) (fun r s' => r = .ok (.ret (.bool true)) ∧ OldK s₁.heap s'.heap ∧ s'.os = s₁.os ∧ AllBare s'.gens) s₁ := by
    intro H only sq hok one
    have kinB : K.In (hidT s₁.heap H) := fun b o e => hidT_get (kin b o e) (Classical.byContradiction fun z => by
      obtain ⟨rfl, q⟩ := one b z
      rw [q] at e; cases e)
    have nsB : ∀ {b : Addr} {m : Str → Option Value}, s₁.heap.Ns b m → (hidT s₁.heap H).Ns b m := by
      rintro b m ⟨o, es, ep, e, d, r⟩
      refine ⟨o, es, ep, hidT_get e (Classical.byContradiction fun z => ?_), d, r⟩
      obtain ⟨rfl, _⟩ := one b z
      rw [ha] at e
      cases e
      cases d
    have lim : (hidT s₁.heap H).NoLimit := by
      obtain ⟨mc, h1, h2⟩ := hlim
      exact ⟨mc, nsB h1, h2⟩
    have mod : Mod K mg (hidT s₁.heap H) := ⟨kinB, nsB hg, ⟨mb, nsB hb, hbb⟩, lim⟩
    have e0 : Env0 P w K mg (hidT s₁.heap H) callerA [] s₁ H := ⟨rfl, mod, fun _ _ e => of_hidT e, Nat.le_of_eq (hidT_size _ _), trivial, fun _ z => absurd z List.not_mem_nil, hok, AllBare.of_eq gen0⟩
    refine codeAny_mono ((F _ kinB (nsB hg)).go callerA [] s₁ H ⟨[.ref a], []⟩ [.ref a] [.ref a] (fun v _ => v = .bl true) (fun _ _ _ => False) ⟨⟨rfl, depth_ok hk, units_ok hk⟩, rfl⟩ e0 (bind s₁ (.ref a)) (.cons rfl .nil) ⟨a, ns, rfl, sq, hl, only, fun _ => rfl⟩) ?_
    intro r s' h
    match r, h with
    | .error e, h =>
      obtain ⟨_, _, _, _, _, _, _, _, _, _, _, _, z⟩ := h
      exact z.elim
    | .ok (.ret u), ⟨v, H', os, bare, un, hok', r', q⟩ =>
      cases (show v = .bl true from q)
      cases (show u = Value.bool true from r')
      refine ⟨rfl, OldK.of_keep fun b o e => ?_, os, bare⟩
      cases q : H b with
      | none => exact un.keep b o e q (fun z => absurd z List.not_mem_nil) (fun z => absurd z List.not_mem_nil)
      | some u =>
        rcases only b with z | ⟨ob, xs, z⟩
        · rw [q] at z; cases z
        · have e1 := (hok b _ z).1
          have e2 := (hok' b _ (un.frzs b ob _ z)).1
          rw [e] at e1
          cases e1
          exact e2
  cases lk : K.lookup a with
  | some o =>
    have e := kin a o lk
    rw [ha] at e
    cases e
    refine main (fun _ => none) (fun _ => .inl rfl) (.inr ⟨_, vs.toArray, _, lk, rfl, rfl, rfl, ?_, ?_⟩) (fun _ _ z => nomatch z) (fun _ z => absurd rfl z)
    · rw [List.size_toArray, hi.length]; exact hz
    · simpa using rv
  | none =>
    let o : Obj := { cls := .type "list", data := .seq vs.toArray }
    have at1 : (fun b => if b = a then some (HO.frz o (.lst (ns.map V.int))) else none : Hp) a = some (.frz o (.lst (ns.map V.int))) := if_pos rfl
    refine main (fun b => if b = a then some (.frz o (.lst (ns.map V.int))) else none) (fun b => ?_) (.inl (.inr ⟨o, at1⟩)) (fun b u z => ?_) (fun b z => ?_)
    · by_cases q : b = a
      · exact .inr ⟨_, _, if_pos q⟩
      · exact .inl (if_neg q)
    · by_cases q : b = a
      · subst q
        rw [at1] at z
        cases z
        exact ⟨ha, by rw [List.length_map]; exact hz, vs, _, rv, ha⟩
      · exact nomatch (if_neg q).symm.trans z
    · by_cases q : b = a
      · exact ⟨q, lk⟩
      · exact absurd (if_neg q) z
end DL

namespace DL
variable [Tbs]
open PySem L2 PySem.Spec PyProof.Rows
inductive Sr where
  | txt (x : Str) | lst (a : Addr) | tup (a : Addr)
def Sr.v : Sr → V
  | .txt x => .str x | .lst a => .ref a | .tup a => .ref a
def Sr.its (K : PySem.W.Frag) (H : Hp) : Sr → List V → Prop
  | .txt x, xs => xs = x.cps.toList.map fun c => V.str ⟨#[c]⟩
  | .lst a, xs => SqL K H a xs
  | .tup a, xs => SqT K H a xs
def Sr.ad : Sr → List Addr
  | .txt _ => [] | .lst a => [a] | .tup a => [a]
def Sr.at (it : Addr) (t : Tok) : Sr → Nat → Heap → Prop
  | .txt x, i, h => h.IsStrIter it (strIterType x) x t i
  | .lst a, i, h => h.IsListIter it a i
  | .tup a, i, h => h.IsTupleIter it a i
def Sr.ob (t : Tok) : Sr → Obj
  | .txt x => { cls := .type (strIterType x), data := .fields #[.str x t, .int 0 0] }
  | .lst a => { cls := .type "list_iterator", data := .fields #[.ref a, .int 0 0] }
  | .tup a => { cls := .type "tuple_iterator", data := .fields #[.ref a, .int 0 0] }
theorem Sr.at_obj {sr : Sr} {it : Addr} {t : Tok} {i : Nat} {h : Heap} (st : sr.at it t i h) : ∃ o, h.get? it = some o ∧ ∀ v, o.data ≠ .cell v := by
  cases sr <;> (obtain ⟨o, e, _, d⟩ := st; exact ⟨o, e, fun v q => by rw [d] at q; cases q⟩)
theorem Sr.at_keep {sr : Sr} {it : Addr} {t : Tok} {i : Nat} {h h' : Heap} (st : sr.at it t i h) (k : ∀ o, h.get? it = some o → h'.get? it = some o) : sr.at it t i h' := by
  cases sr <;> (obtain ⟨o, e, r⟩ := st; exact ⟨o, k o e, r⟩)
theorem Sr.at_zero {sr : Sr} {it : Addr} {t : Tok} {h : Heap} (e : h.get? it = some (sr.ob t)) : sr.at it t 0 h := by
  cases sr <;> exact ⟨_, e, rfl, rfl⟩
section
variable {X : Cx} {pins : List (Addr × Obj)} {σ : L2.St} {H : Hp} {s : Shared}
theorem Sr.inj {sr : Sr} {xs ys : List V} (I : Inv X pins σ H s) (h : sr.its X.K H xs) (h' : sr.its X.K H ys) : xs = ys := by
  cases sr with
  | txt x => exact Eq.trans h (Eq.symm h')
  | lst a => exact I.list_inj h h'
  | tup a => exact I.tuple_inj h h'
theorem Sr.lt {sr : Sr} {xs : List V} (I : Inv X pins σ H s) (h : sr.its X.K H xs) : ∀ a ∈ sr.ad, a < s.heap.objs.size := by
  intro a ha
  cases sr with
  | txt x => cases ha
  | lst b =>
    cases List.mem_singleton.mp ha
    obtain ⟨its, rv, p, _⟩ := I.list h
    exact p.lt
  | tup b =>
    cases List.mem_singleton.mp ha
    obtain ⟨its, rv, p, _⟩ := I.tuple h
    obtain ⟨o, ho, _⟩ := p
    exact Heap.lt_size ho
theorem Sr.begins {sr : Sr} {xs : List V} {u : Value} (I : Inv X pins σ H s) (h : sr.its X.K H xs) (r : RelV sr.v u) : ∃ (t : Tok) (B : Heap → Prop), Begins u (sr.ob t) B ∧ B s.heap := by
  cases sr with
  | txt x =>
    obtain ⟨t, rfl⟩ := r
    exact ⟨t, _, begins_text x t, trivial⟩
  | lst a =>
    cases r
    obtain ⟨its, rv, p, _⟩ := I.list h
    exact ⟨0, _, begins_list a its.toArray, p.isList⟩
  | tup a =>
    cases r
    obtain ⟨its, rv, p, _⟩ := I.tuple h
    exact ⟨0, _, begins_tuple a its.toArray, p⟩
theorem Sr.draws {sr : Sr} {xs : List V} {it : Addr} {t : Tok} (hc : X.calm = true) (I : Inv X pins σ H s) (h : sr.its X.K H xs) (hn : it ∉ sr.ad) :
    ∃ (P : Nat → Value → Prop) (S : Nat → Heap → Prop), Draws X.prog X.w X.A.in1 it (it :: sr.ad) xs.length P S ∧ (∀ i v, P i v → ∃ x, xs[i]? = some x ∧ RelV x v) ∧ (∀ i, sr.at it t i s.heap → S i s.heap) ∧ ∀ i h, S i h → sr.at it t i h := by
  have hh : X.A.in1.handled = none := I.ok.hd hc
  cases sr with
  | txt x =>
    have h : xs = x.cps.toList.map fun c => V.str ⟨#[c]⟩ := h
    subst h
    have D := Draws.text (prog := X.prog) (w := X.w) hh it x t
    have e0 : x.cps.size = (x.cps.toList.map fun c => V.str ⟨#[c]⟩).length := by simp
    rw [e0] at D
    refine ⟨_, _, D, fun i v q => ?_, fun i st => st, fun i h st => st⟩
    obtain ⟨c, u, e, ev⟩ := q
    refine ⟨.str ⟨#[c]⟩, ?_, ⟨u, ev⟩⟩
    rw [List.getElem?_map]
    have : x.cps.toList[i]? = some c := by simpa using e
    rw [this]; rfl
  | lst a =>
    obtain ⟨its, rv, p, _⟩ := I.list h
    have hne : a ≠ it := fun e => hn (by rw [e]; exact List.mem_singleton.mpr rfl)
    have D := Draws.list (prog := X.prog) (w := X.w) hh it a hne its.toArray
    rw [List.size_toArray, ← rv.length] at D
    refine ⟨_, _, D, fun i v e => ?_, fun i st => ⟨st, p.isList⟩, fun i h st => st.1⟩
    have e : its[i]? = some v := by simpa using e
    have hi : i < xs.length := by rw [rv.length]; exact (List.getElem?_eq_some_iff.mp e).1
    have hx : xs[i]? = some xs[i] := List.getElem?_eq_getElem hi
    obtain ⟨u, hu, ru⟩ := rv.get hx
    rw [hu] at e; cases e
    exact ⟨_, hx, ru⟩
  | tup a =>
    obtain ⟨its, rv, p, _⟩ := I.tuple h
    have hne : a ≠ it := fun e => hn (by rw [e]; exact List.mem_singleton.mpr rfl)
    have D := Draws.tuple (prog := X.prog) (w := X.w) hh it a hne its.toArray
    rw [List.size_toArray, ← rv.length] at D
    refine ⟨_, _, D, fun i v e => ?_, fun i st => ⟨st, p⟩, fun i h st => st.1⟩
    have e : its[i]? = some v := by simpa using e
    have hi : i < xs.length := by rw [rv.length]; exact (List.getElem?_eq_some_iff.mp e).1
    have hx : xs[i]? = some xs[i] := List.getElem?_eq_getElem hi
    obtain ⟨u, hu, ru⟩ := rv.get hx
    rw [hu] at e; cases e
    exact ⟨_, hx, ru⟩
end
structure Ap (z TI TO i1 i2 : Addr) (a b : Sr) : Prop where
  TIz : TI ≠ z
  TOz : TO ≠ z
  TITO : TI ≠ TO
  TIi1 : TI ≠ i1
  TIi2 : TI ≠ i2
  zi1 : z ≠ i1
  zi2 : z ≠ i2
  Ti1 : TO ≠ i1
  Ti2 : TO ≠ i2
  i12 : i1 ≠ i2
  za : z ∉ a.ad
  zb : z ∉ b.ad
  Ta : TO ∉ a.ad
  Tb : TO ∉ b.ad
  a1 : i1 ∉ a.ad
  a2 : i2 ∉ a.ad
  b1 : i1 ∉ b.ad
  b2 : i2 ∉ b.ad
theorem Ap.sep {z TI TO i1 i2 : Addr} {a b : Sr} (D : Ap z TI TO i1 i2 a b) : ZipSep2 z TI TO i1 i2 (i1 :: a.ad) (i2 :: b.ad) where
  TIz := D.TIz
  TOz := D.TOz
  TITO := D.TITO
  TIi1 := D.TIi1
  mem1 := List.mem_cons_self ..
  zf1 := fun h => (List.mem_cons.mp h).elim D.zi1 D.za
  Tf1 := fun h => (List.mem_cons.mp h).elim D.Ti1 D.Ta
  TIi2 := D.TIi2
  mem2 := List.mem_cons_self ..
  zf2 := fun h => (List.mem_cons.mp h).elim D.zi2 D.zb
  Tf2 := fun h => (List.mem_cons.mp h).elim D.Ti2 D.Tb
  sep1_2 := fun h => (List.mem_cons.mp h).elim D.i12 D.b1
  sep2_1 := fun h => (List.mem_cons.mp h).elim D.i12.symm D.a2
theorem Ap.new {N : Nat} {a b : Sr} (ha : ∀ x ∈ a.ad, x < N) (hb : ∀ x ∈ b.ad, x < N) : Ap (N + 4) (N + 2) (N + 3) N (N + 1) a b where
  TIz := by show (N + 2 : Nat) ≠ (N + 4 : Nat); omega
  TOz := by show (N + 3 : Nat) ≠ (N + 4 : Nat); omega
  TITO := by show (N + 2 : Nat) ≠ (N + 3 : Nat); omega
  TIi1 := by show (N + 2 : Nat) ≠ (N : Nat); omega
  TIi2 := by show (N + 2 : Nat) ≠ (N + 1 : Nat); omega
  zi1 := by show (N + 4 : Nat) ≠ (N : Nat); omega
  zi2 := by show (N + 4 : Nat) ≠ (N + 1 : Nat); omega
  Ti1 := by show (N + 3 : Nat) ≠ (N : Nat); omega
  Ti2 := by show (N + 3 : Nat) ≠ (N + 1 : Nat); omega
  i12 := by show (N : Nat) ≠ (N + 1 : Nat); omega
  za := fun h => by have : (N + 4 : Nat) < N := ha _ h; omega
  zb := fun h => by have : (N + 4 : Nat) < N := hb _ h; omega
  Ta := fun h => by have : (N + 3 : Nat) < N := ha _ h; omega
  Tb := fun h => by have : (N + 3 : Nat) < N := hb _ h; omega
  a1 := fun h => by have : (N : Nat) < N := ha _ h; omega
  a2 := fun h => by have : (N + 1 : Nat) < N := ha _ h; omega
  b1 := fun h => by have : (N : Nat) < N := hb _ h; omega
  b2 := fun h => by have : (N + 1 : Nat) < N := hb _ h; omega
def ItE (K : PySem.W.Frag) (a : Sr) (n : Nat) : It :=
  ⟨fun i H => i < n ∧ ∃ (xs : List V) (x : V), a.its K H xs ∧ xs[i]? = some x,
    fun i H v H' => ∃ T x, v = .ref T ∧ H T = none ∧ H' = upd H T (.tup [.int (i : Nat), x]) ∧ ∀ xs, a.its K H xs → xs[i]? = some x,
    fun i H => n ≤ i ∧ ∃ xs : List V, a.its K H xs ∧ n = xs.length⟩
theorem turn_enumS {P : Program} {w : World} {K : PySem.W.Frag} {elts : List Expr} {kk : Nat} {tpos : Pos} {a : Sr} {e it : Addr} {t : Tok} {n : Nat} (hne : e ≠ it) (he : e ∉ a.ad) (hi : it ∉ a.ad) :
    Turn P w K (.Tuple elts kk tpos) (ItE K a n) [e, it] e (fun i h => i ≤ n ∧ (∃ old, IsEnum h e it ((i : Nat) : Int) old) ∧ a.at it t i h) where
  mem := by simp
  obj := fun i h st b hb => by
    obtain ⟨_, ⟨old, he⟩, h1⟩ := st
    have e' : b = e ∨ b = it := by simpa using hb
    rcases e' with z | z
    · rw [z]; exact ⟨_, he, fun v q => nomatch q⟩
    · rw [z]; exact Sr.at_obj h1
  keep := fun i h h' st k => let ⟨hin, ⟨old, he⟩, hi⟩ := st; ⟨hin, ⟨old, k e (by simp) _ he⟩, Sr.at_keep hi fun o q => k it (by simp) o q⟩
  item := by
    intro X hP hw hK hc i pins s σ H E I hf st hg
    subst hP hw hK
    obtain ⟨hin, ⟨old, hen⟩, hit⟩ := st
    obtain ⟨hlt, xs, x, hq, hx⟩ := hg
    obtain ⟨P1, S1, D1, r1, in1, out1⟩ := Sr.draws (t := t) hc I hq hi
    have hel : e < s.heap.objs.size := Heap.lt_size hen
    have hil : it < s.heap.objs.size := by obtain ⟨_, q, _⟩ := Sr.at_obj hit; exact Heap.lt_size q
    refine wpAny_pyNext_enum_itemC D1 hen (in1 i hit) (List.getElem?_eq_some_iff.mp hx).1 hne (fun h => (List.mem_cons.mp h).elim hne he) fun u h' tk p1 ho hit' hT hsz hk => ?_
    obtain ⟨x', hx', ru⟩ := r1 i u p1
    rw [hx] at hx'; cases hx'
    refine ⟨_, rfl, wpAny_letOwnedTupleGo_enum (s := { s with heap := h', toks := tk + 1 }) ho fun h'' he' sb => ?_⟩
    have hT2 : h''.get? s.heap.objs.size = some { cls := .type "tuple", data := .seq #[.int i tk, u] } := (sb.2 _ (Nat.ne_of_gt hel)).trans hT
    have new : ObjOk X.prog X.w (upd H s.heap.objs.size (.tup [.int (i : Nat), x])) h'' s.heap.objs.size (.tup [.int (i : Nat), x]) :=
      ⟨by show 2 ≤ sizeLine; decide, [.int i tk, u], .cons ⟨_, rfl⟩ (.cons ru .nil), ⟨_, hT2, rfl, _, rfl⟩⟩
    have I1 : Inv X pins σ (upd H s.heap.objs.size (.tup [.int (i : Nat), x])) { s with heap := h'', toks := tk + 1 } :=
      I.turnedNew (ch := [e, it]) (fun b ob hb q => (sb.2 b (fun z => hb (by simp [z]))).trans (hk b ob (fun z => hb (by simp [z])) (fun z => hb (by simp [z])) q)) hf (Nat.le_refl _) new
    refine ⟨.ref s.heap.objs.size, _, I1, rfl, ⟨_, x, rfl, I.hok.fresh (Nat.le_refl _), rfl, fun ys hy => by rw [Sr.inj I hy hq]; exact hx⟩, ⟨hlt, ⟨u, ?_⟩, Sr.at_keep (out1 _ _ hit') fun o q => (sb.2 it (Ne.symm hne)).trans q⟩, fun b hb => ?_⟩
    · have e1 : ((i + 1 : Nat) : Int) = (i : Int) + 1 := by omega
      rw [e1]; exact he'
    · have hb' : b < s.heap.objs.size := by
        have e' : b = e ∨ b = it := by simpa using hb
        rcases e' with z | z
        · rw [z]; exact hel
        · rw [z]; exact hil
      rw [upd_ne (Nat.ne_of_lt hb')]
      exact (hf b hb).1
  done := by
    intro X hP hw hK hc i pins s σ H E I hf st hg
    subst hP hw hK
    obtain ⟨hin, ⟨old, hen⟩, hit⟩ := st
    obtain ⟨hge, xs, hq, hn⟩ := hg
    have ei : i = xs.length := by omega
    subst ei
    obtain ⟨P1, S1, D1, r1, in1, out1⟩ := Sr.draws (t := t) hc I hq hi
    obtain ⟨f0, f1, f2, f3, f4, f5⟩ := hf it (by simp)
    exact wpAny_pyNext_enum_endD D1 hen (in1 _ hit) fun h' eb => ⟨rfl, I.turned (t' := s.toks) (fun b o hb q => eb b o hb q) f0 f1 f3 f4 f5⟩
  self := fun A i s Q E st h => let ⟨_, ⟨_, he⟩, _⟩ := st; wpAny_pyIter_enum he h
end DL

namespace DL
variable [Tbs]
open PySem L2 PySem.Spec PyProof.Rows
set_option maxHeartbeats 1000000 in
theorem meets_enum1 {v : Value} {o : Obj} {H : Heap → Prop} (B : Begins v o H) :
    Meets (Builtin.«enumerate.__new__» ⟨[.type "enumerate", v], []⟩) (fun _ R s => H s.heap ∧
      R (.ok (.ret (.ref (s.heap.push o).objs.size))) { s with heap := (s.heap.push o).push { cls := .type "enumerate", data := .fields #[.none, .bool false, .ref s.heap.objs.size, rawInt 0, .none, .none] } }) :=
  .of_wp fun prog w A R s h => by
    obtain ⟨hp, g, d, tk, os⟩ := s; obtain ⟨h1, h⟩ := h
    have hsub := sub_enumerate
    have q1 : ∀ {A' : Around} {E : Value → Shared → Prop} {Q : Value → Shared → Prop}, Q (.ref hp.objs.size) ⟨hp.push o, g, d, tk, os⟩ → wpAny (model prog w) A' (pyIter v) Q E ⟨hp, g, d, tk, os⟩ :=
      fun q => B.iter prog w _ _ ⟨hp, g, d, tk, os⟩ _ h1 q
    wp_walk using q1
    refine wpAny_stack_any fun st => wpAny_pure ?_
    split
    · rename_i c _ _ _ _ _
      cases (c == Value.type "enumerate")
      · wp_walk using q1
        exact ⟨_, rfl, h⟩
      · wp_walk using q1
        exact ⟨_, rfl, h⟩
    · wp_walk using q1
      exact ⟨_, rfl, h⟩
theorem enum1_begins {prog : Program} {w : World} {A : Around} {E : Value → Shared → Prop} {s : Shared} {v : Value} {o : Obj} {H : Heap → Prop} {Q : Value → Shared → Prop} (B : Begins v o H) (h1 : H s.heap)
    (h : ∀ h', IsEnum h' (s.heap.objs.size + 1) s.heap.objs.size 0 .none → h'.get? s.heap.objs.size = some o → h'.objs.size = s.heap.objs.size + 2 →
      (∀ b o, s.heap.get? b = some o → h'.get? b = some o) → Q (.ref (s.heap.objs.size + 1)) { s with heap := h' }) :
    wpAny (model prog w) A (call (.type "enumerate") [v]) Q E s := by
  refine callType_new F.called_enumerate (by decide) (F.typeCall_enumerate_1 _) (F.newCall_enumerate_1 _) (fun obj => F.args_object_init_2 obj _) F.entry_enumerate_new
    (meets_enum1 B) ⟨h1, ?_⟩
  have hz : (s.heap.push o).objs.size = s.heap.objs.size + 1 := Heap.size_push ..
  show _ ∧ _
  rw [hz]
  have he : IsEnum ((s.heap.push o).push { cls := .type "enumerate", data := .fields #[.none, .bool false, .ref s.heap.objs.size, rawInt 0, .none, .none] }) (s.heap.objs.size + 1) s.heap.objs.size 0 .none := by
    have := Heap.get?_push_size (s.heap.push o) (o := { cls := .type "enumerate", data := .fields #[.none, .bool false, .ref s.heap.objs.size, rawInt 0, .none, .none] }) rfl
    rw [hz] at this; exact this
  exact ⟨⟨_, he, rfl⟩, h _ he (Heap.get?_push_of_some _ (Heap.get?_push_size _ B.free)) (by rw [Heap.size_push, hz]) fun b o x => Heap.get?_push_of_some _ (Heap.get?_push_of_some _ x)⟩
def iEnumS (K : PySem.W.Frag) (ta : TA) : TI := fun σ H R => ta σ H fun vs H1 => ∃ (a : Sr) (xs : List V), vs = [a.v] ∧ a.its K H1 xs ∧ R (ItE K a xs.length) H1
theorem pi_enumS {X : Cx} {e : Expr} {ta : TA} {p pos tpos : Pos} {elts : List Expr} {kk : Nat} (hg : Gl X "enumerate") (hm : X.mg "enumerate" = none) (ha : PA X [e] ta) (hs : starEach [e] X.env = [(false, eval e X.env)] := by rfl) :
    PI X (.Tuple elts kk tpos) (.Call (.Name "enumerate" p) [e] [] pos) (iEnumS X.K ta) := by
  refine ⟨fun pins s σ H R I h => ?_⟩
  refine Call_ (ld_blt I hg hm boot_enumerate (PyProof.Rows.callWith_type1 (thn (ha.run pos pins s σ H _ I h) fun us s1 ⟨vs, H1, I1, r1, q1⟩ => ?_) hs rfl))
  obtain ⟨a, xs, ex, hq, q⟩ := q1
  subst ex
  cases r1 with
  | cons r rr =>
    cases rr
    obtain ⟨t1, B1, b1, k1⟩ := Sr.begins I1 hq r
    refine enum1_begins b1 k1 fun h' he hit hsz hk => wpAny_pyIter_enum he ?_
    have I2 : Inv X pins σ H1 { s1 with heap := h' } := I1.kept (t' := s1.toks) hk
    have lt := Sr.lt I1 hq
    refine ⟨s1.heap.objs.size + 1, [s1.heap.objs.size + 1, s1.heap.objs.size], _, _, H1, rfl, I2, turn_enumS (a := a) (t := t1) (n := xs.length) (Nat.succ_ne_self _) (fun h => ?_) (fun h => ?_), ⟨Nat.zero_le _, ⟨.none, he⟩, Sr.at_zero hit⟩, fun b hb => ?_, q⟩
    · exact absurd (lt _ h) (Nat.not_lt.mpr (Nat.le_succ _))
    · exact absurd (lt _ h) (Nat.lt_irrefl _)
    · have e' : b = s1.heap.objs.size + 1 ∨ b = s1.heap.objs.size := by simpa using hb
      have hle : s1.heap.objs.size ≤ b := by
        rcases e' with z | z
        · rw [z]; exact Nat.le_add_right _ _
        · rw [z]; exact Nat.le_refl _
      exact I1.fpOk hle (I1.hok.fresh hle)
def seqD : D → Option (List D)
  | .str cs => some (cs.map fun c => .str [c])
  | .lst _ xs => some xs
  | .tup xs => some xs
  | _ => none
section
variable {X : Cx} {cm : Cm} {E : XS} {pos : Pos} {a c : Expr}
theorem seqD_src {W : Addr → Prop} {H : Hp} {v : V} {d : D} {xs : List D} (hk : X.K = cm.K) (r : Rep cm W H v d []) (h : seqD d = some xs) : ∃ (sr : Sr) (vs : List V), v = sr.v ∧ sr.its X.K H vs ∧ vs.length = xs.length ∧
    ∀ W' H2, Later cm W H W' H2 → sr.its X.K H2 vs ∧ ∀ (i : Nat) (d : D), xs[i]? = some d → ∃ u, vs[i]? = some u ∧ Rep cm W' H2 u d [] := by
  generalize hf : ([] : List Addr) = fp at r
  cases r with
  | str cs =>
    cases h
    refine ⟨.txt ⟨cs.toArray⟩, _, rfl, rfl, by simp, fun W' H2 l => ⟨rfl, fun i d hd => ?_⟩⟩
    rw [List.getElem?_map] at hd
    obtain ⟨c, hc, rfl⟩ := Option.map_eq_some_iff.mp hd
    refine ⟨.str ⟨#[c]⟩, ?_, .str [c]⟩
    rw [List.getElem?_map]
    have : cs.toArray.toList[i]? = some c := by simpa using hc
    rw [this]; rfl
  | lstO => cases hf
  | lstF h0 n rs =>
    cases h
    refine ⟨.lst _, _, rfl, SqL.of h0, rs.len, fun W' H2 l => ⟨SqL.of (l.2.1 _ _ h0 n), fun i d hd => ?_⟩⟩
    obtain ⟨u, hu, ru⟩ := rs.at rfl hd
    exact ⟨u, hu, ru.later l⟩
  | tup h0 n rs =>
    cases h
    subst hf
    refine ⟨.tup _, _, rfl, SqT.of h0, rs.len, fun W' H2 l => ⟨SqT.of (l.2.1 _ _ h0 n), fun i d hd => ?_⟩⟩
    obtain ⟨u, hu, ru⟩ := rs.at rfl hd
    exact ⟨u, hu, ru.later l⟩
  | _ => cases h
def iZp (fs : Env → Out (List D)) : Env → Out (List D) := fun r => (fs r).bind fun ds => match ds with
  | [x, y] => match seqD x, seqD y with
    | some xs, some ys => .ok ((xs.zip ys).map fun p => .tup [p.1, p.2])
    | _, _ => .bad
  | _ => .bad
def enumD (xs : List D) : List D := xs.zipIdx.map fun p => .tup [.int (p.2 : Nat), p.1]
def iEn (fs : Env → Out (List D)) : Env → Out (List D) := fun r => (fs r).bind fun ds => match ds with
  | [x] => match seqD x with
    | some xs => .ok (enumD xs)
    | none => .bad
  | _ => .bad
theorem di_enum {tpos : Pos} {elts : List Expr} {kk : Nat} {p : Pos} {fs : Env → Out (List D)} (hk : X.K = cm.K) (hg : Gl X "enumerate") (hm : X.mg "enumerate" = none) (ha : DA X cm E false [a] fs) (hs : starEach [a] X.env = [(false, eval a X.env)] := by rfl) :
    DI X cm E (.Tuple elts kk tpos) (.Call (.Name "enumerate" p) [a] [] pos) (iEn fs) := by
  obtain ⟨ta, h1, h2⟩ := ha.ex
  refine ⟨_, pi_enumS hg hm h1 hs, fun W H σ r w fr R hp => h2 W H σ r w fr _ (hp.bind.mono (fun ds q vs H1 fp e1 r1 f1 => ?_) fun _ _ z => z)⟩
  cases (show fp = [] from f1)
  split at q
  · rename_i x
    split at q
    · rename_i xs hx
      generalize hf : ([] : List Addr) = fp at r1
      cases r1 with
      | cons k1 k2 =>
        obtain ⟨rfl, rfl⟩ := app_nil hf
        cases k2
        obtain ⟨sr, us, rfl, hi, hl, lat⟩ := seqD_src hk k1.ofP hx
        refine ⟨sr, us, rfl, hi, q _ H1 e1 fun W' H2 i l => ?_⟩
        obtain ⟨hi2, at2⟩ := lat W' H2 l
        refine ⟨fun d hd => ?_, fun hd => ?_⟩
        · unfold enumD at hd
          rw [List.getElem?_map] at hd
          obtain ⟨⟨d0, j⟩, hz, rfl⟩ := Option.map_eq_some_iff.mp hd
          rw [List.getElem?_zipIdx] at hz
          obtain ⟨d1, hd1, e⟩ := Option.map_eq_some_iff.mp hz
          cases e
          obtain ⟨u, hu, ru⟩ := at2 i d0 hd1
          refine ⟨⟨by rw [hl]; exact (List.getElem?_eq_some_iff.mp hd1).1, us, u, hi2, hu⟩, fun x H3 y => ?_⟩
          obtain ⟨T, x', rfl, hT, rfl, f⟩ := y
          have := f us hi2
          rw [hu] at this; cases this
          have nT : ¬ W' T := fun z => by obtain ⟨o, h, _⟩ := l.2.2.1 T z; rw [hT] at h; cases h
          refine ⟨Ex.new hT, ?_⟩
          show Rep cm W' _ (.ref T) (.tup [.int ((0 + i : Nat) : Int), d0]) []
          rw [Nat.zero_add]
          exact .tup (fp := []) upd_same nT (.cons (fp := []) (fps := []) (.int _) (.cons (fp := []) (fps := []) (ru.ex (Ex.new hT)) .nil))
        · unfold enumD at hd
          rw [List.getElem?_map, Option.map_eq_none_iff, List.getElem?_eq_none_iff, List.length_zipIdx] at hd
          exact ⟨by rw [hl]; exact hd, us, hi2, rfl⟩
    · exact q.elim
  · exact q.elim
end
end DL

namespace DL
variable [Tbs]
open PySem L2
def isSc : D → Bool
  | .int _ => true
  | .str _ => true
  | _ => false
def sAug (i : Nat) (gg : D → D → Out D) (f : FX) : FS := fun r => match r[i]? with
  | some (some d0) => if isSc d0 = true then (match f r with
    | .ok p => match gg d0 (frz p.1) with
      | .ok d => if i < p.2.length then .nx (p.2.set i (some d)) else .bad
      | _ => .bad
    | .exn x r' => .exn x r'
    | .bad => .bad) else .bad
  | _ => .bad
theorem Rep.sc {cm : Cm} {W W' : Addr → Prop} {H H' : Hp} {v : V} {d : D} {fp : List Addr} (h : Rep cm W H v d fp) (s : isSc d = true) : Rep cm W' H' v d [] := by
  cases h <;> first | (exact .int _) | (exact .str _) | (cases s)
section
variable {X : Cx} {cm : Cm} {E : XS} {pos : Pos} {ks : Nat → Bool} {e : Expr} {f : FX}
def sPar (i j : Nat) (h : Env → Out (List D × Env)) : FS := fun r => match h r with
  | .ok p => match p.1 with
    | [a, b] => if i < p.2.length ∧ j < p.2.length then .nx ((p.2.set i (some a)).set j (some b)) else .bad
    | _ => .bad
  | .exn x r' => .exn x r'
  | .bad => .bad
end
end DL

namespace DL
variable [Tbs]
open PySem L2
def popD (i : Nat) (j : Nat) (r : Env) : Out (D × Env) := match r[i]? with
  | some (some (.lst true ds)) => match ds[j]? with
    | some d => .ok (frz d, r.set i (some (.lst true (ds.eraseIdx j))))
    | none => .bad
  | _ => .bad
def sPopAt (i : Nat) (f : FX) : FX := fun r => match r[i]? with
  | some (some (.lst true _)) => (f r).bind fun p => match p.1, p.2[i]? with
    | .int k, some (some (.lst true ds)) => match ixN ds.length k with
      | some j => if ds.length ≤ 1000000 then popD i j p.2 else .bad
      | none => .bad
    | _, _ => .bad
  | _ => .bad
section
variable {X : Cx} {cm : Cm} {E : XS} {pos : Pos} {ks : Nat → Bool} {a e : Expr} {f : FX} {W0 : Addr → Prop} {H : Hp} {σ : St} {r : Env} {fps : Fps}
theorem Reps.pick {W : Addr → Prop} : ∀ (j : Nat) {vs : List V} {ds : List D} {fp : List Addr} {d : D}, Reps cm W H vs ds fp → ds[j]? = some d → ∃ v fa fb, vs[j]? = some v ∧ Rep cm W H v d fa ∧ Reps cm W H (vs.eraseIdx j) (ds.eraseIdx j) fb ∧ fb.Sublist fp ∧ (∀ a ∈ fa, a ∈ fp) ∧ (fp.Nodup → ∀ a ∈ fa, a ∉ fb)
  | _, _, _, _, _, .nil, h => nomatch h
  | 0, _, _, _, _, .cons (v := v) (fp := f1) (fps := f2) h r, e => by
    cases e
    exact ⟨v, f1, f2, rfl, h, r, List.sublist_append_right _ _, fun a m => List.mem_append_left _ m, fun nd a m m' => (List.nodup_append.mp nd).2.2 a m a m' rfl⟩
  | j + 1, _, _, _, _, .cons (v := v) (fp := f1) (fps := f2) h r, e => by
    obtain ⟨u, fa, fb, h1, h2, h3, h4, h5, h6⟩ := Reps.pick j r e
    refine ⟨u, fa, f1 ++ fb, h1, h2, .cons h h3, List.Sublist.append (List.Sublist.refl _) h4, fun a m => List.mem_append_right _ (h5 a m), fun nd a m m' => ?_⟩
    have n := List.nodup_append.mp nd
    rcases List.mem_append.mp m' with m' | m'
    · exact n.2.2 a m' a (h5 a m) rfl
    · exact h6 n.2.1 a m m'
theorem Good.pop {i j : Nat} {ds : List D} {d : D} {pa : Addr} {vs : List V} {Q : VK} (g : Good cm W0 H σ r fps) (hd : r[i]? = some (some (.lst true ds))) (q1 : σ[i]? = some (some (.ref pa))) (hpa : H pa = some (.lst vs)) (hj : ds[j]? = some d) {H0 : Hp} {f0 : Fps} (m : Fram H0 f0 H fps [])
    (q : QX cm W0 H0 σ f0 Q (frz d, r.set i (some (.lst true (ds.eraseIdx j))))) : ∃ y, vs[j]? = some y ∧ Q y (upd H pa (.lst (vs.eraseIdx j))) := by
  obtain ⟨v1, e1, e2⟩ := g.sl i _ hd
  rw [q1] at e1
  cases e1
  obtain ⟨pa', vs', fp, e3, hpa', hfp, hr⟩ := e2.lstOf
  cases e3
  rw [hpa] at hpa'
  cases hpa'
  obtain ⟨v, fa, fb, p1, p2, p3, p4, p5, p6⟩ := Reps.pick j hr hj
  refine ⟨v, p1, ?_⟩
  have hmem : pa ∈ fps i := by rw [hfp]; exact List.mem_cons_self ..
  have nd1 := g.nd i
  rw [hfp] at nd1
  have nd2 := List.nodup_cons.mp nd1
  have hin : ∀ a ∈ fp, a ∈ fps i := fun a m => by rw [hfp]; exact List.mem_cons_of_mem _ m
  have hsub : ∀ a ∈ fb, a ∈ fps i ∨ a ∈ ([] : List Addr) := fun a m => .inl (hin a (p4.subset m))
  have hnp : pa ∉ fb := fun m => nd2.1 (p4.subset m)
  have hnd : fb.Nodup := p4.nodup nd2.2
  have p3' : Reps cm (Wof (Wp W0 []) fps) H (vs.eraseIdx j) (ds.eraseIdx j) fb := by rw [wp_nil]; exact p3
  have g' : Good cm (Wp W0 []) H σ r fps := by rw [wp_nil]; exact g
  have g2 := g'.mut q1 ⟨_, hpa⟩ hmem p3' hsub hnp hnd (fun _ m => nomatch m)
  have m2 := Fram.mut (o := .lst (vs.eraseIdx j)) m hmem ⟨_, hpa, rfl⟩ hsub
  have hno : ∀ a ∈ fa, ¬ Wof W0 (fun k => if k = i then pa :: fb else fps k) a := by
    intro a ma z
    rcases z with z | ⟨k, z⟩
    · exact g.nw i a (hin a (p5 a ma)) z
    · simp only [] at z
      split at z
      · rcases List.mem_cons.mp z with rfl | z
        · exact nd2.1 (p5 _ ma)
        · exact p6 nd2.2 a ma z
      · rename_i hk
        exact hk (g.dj k i a z (hin a (p5 a ma)))
  have r1 : Rep cm (Wof W0 (fun k => if k = i then pa :: fb else fps k)) H v (frz d) [] := p2.frz (fun a z => by
    rcases z with z | ⟨k, z⟩
    · exact .inl z
    · simp only [] at z
      split at z
      · rcases List.mem_cons.mp z with rfl | z
        · exact .inr ⟨i, hmem⟩
        · exact .inr ⟨i, hin a (p4.subset z)⟩
      · exact .inr ⟨k, z⟩) hno
  have r2 : Rep cm (Wof W0 (fun k => if k = i then pa :: fb else fps k)) (upd H pa (.lst (vs.eraseIdx j))) v (frz d) [] := r1.move (fun _ z => .inl z) fun a o z _ w => by
    rw [upd_ne]
    · exact z
    · rintro rfl
      rcases w with w | w
      · exact w (.inr ⟨i, by simp⟩)
      · cases w
  exact q v _ _ [] (by rw [wp_nil]; exact g2) (by rw [wp_nil]; exact r2) List.nodup_nil (fun _ m => nomatch m) m2
theorem xe_popAt (i : Nat) {apos : Pos} (hv : PE X a (tVar i)) (h1 : XE X cm E e f) (hbase : attributeBase a "pop" X.env (eval a X.env) = eval a X.env := by rfl)
    (hfew : ((backTo pos (starEach [e] X.env)).all (fun x => !x.1) && (backToKw pos (keywordEach [] X.env)).all (fun x => x.1.isSome) && decide ([e].length + ([] : List Keyword).length + (if ([] : List Keyword).isEmpty then 0 else 1) < 30)) = true := by rfl)
    (hline : (apos.endLine == pos.line) = true := by rfl) (hs : starEach [e] X.env = (false, eval e X.env) :: starEach [] X.env := by rfl) (hplain : (backTo pos (starEach [] X.env)).any (·.1) = false := by rfl) :
    XE X cm E (.Call (.Attribute a "pop" apos) [e] [] pos) (sPopAt i f) := by
  obtain ⟨te, a1, a2⟩ := h1.ex
  refine ⟨_, pe_bm PySem.F.plainAttrs_list PySem.F.slot_list_pop PySem.F.type_list_pop mt_popAt hv (pa_cons a1 pa_nil hs) hbase hfew hline hs hplain, fun W0 H σ r fps gd Q hp => ?_⟩
  unfold sPopAt at hp
  split at hp
  · rename_i ds0 hd0
    obtain ⟨v0, q1, q2⟩ := gd.sl i _ hd0
    obtain ⟨pa, vs0, fp0, rfl, hpa0, hfp0, _⟩ := q2.lstOf
    refine ⟨_, q1, .inl ⟨rfl, _, SqL.of hpa0⟩, ?_⟩
    refine a2 W0 H σ r fps gd _ (hp.bind.mono (fun pp q v H1 f1 p1 g1 k1 n1 w1 m1 => ?_) fun _ _ z => z)
    split at q
    · rename_i k ds hk hd
      split at q
      · rename_i j hj
        split at q
        · rename_i hl
          rw [hk] at k1
          cases k1
          unfold popD at q
          rw [hd] at q
          simp only [] at q
          split at q
          · rename_i d hdj
            rw [wp_nil] at g1
            obtain ⟨v1, e1, e2⟩ := g1.sl i _ hd
            rw [q1] at e1
            cases e1
            obtain ⟨pa', vs, fp, e3, hpa, hfp, hr⟩ := e2.lstOf
            cases e3
            obtain ⟨y, y1, y2⟩ := g1.pop hd q1 hpa hdj m1 q
            have hn := hr.len
            obtain ⟨z1, z2, z3, z4⟩ := ixN_seq hj
            have hsz : (ds.length : Int) ≤ 1000000 := by omega
            exact ⟨pa, vs, k, j, y, rfl, rfl, hpa, by omega, by omega, by rw [hn]; exact z1, y1, y2⟩
          · exact q.elim
        · exact q.elim
      · exact q.elim
    · exact q.elim
  · exact hp.elim
end
end DL

namespace DL
variable [Tbs]
open PySem L2
def isNonD : D → Bool
  | .non => true
  | _ => false
def ordOk (x y : D) : Bool := plainD x && plainD y && dle 60 x && dle 60 y && W.alike (toPy x) (toPy y) && !isNonD x
abbrev ltD (x y : D) : Bool := W.dataLt (toPy x) (toPy y)
theorem toPy_non {x : D} (p : plainD x = true) (h : isNonD x = false) : toPy x ≠ .none := by
  cases x <;> simp [toPy, plainD, isNonD] at *
section
variable {X : Cx} {cm : Cm} {E : XS} {b : Bool} {pos p : Pos} {a c : Expr} {fa fb : F}
def rOrd (K : PySem.W.Frag) (g : PyData → PyData → Bool) : R2 := fun x y H Q => ∃ d e, Dp K H x d ∧ Dp K H y e ∧ W.alike d e = true ∧ d ≠ .none ∧ d.depth ≤ 60 ∧ Q (.bl (g d e)) H
theorem op_ordX {op : CmpOp} {g : PyData → PyData → Bool} (hu : X.A.units + 64 < cLine) (h : ∀ {prog : Program} {w : World} {A : Around} {E : Value → Shared → Prop} {s : Shared} {a b : Value} {da db : PyData} {as bs : List Addr} {Q : Value → Shared → Prop}, Reads s.heap a da as → Reads s.heap b db bs → W.alike da db = true → da ≠ .none → A.units + min da.depth db.depth < cLine → Q (.bool (g da db)) s → wpAny (model prog w) A (compareOp op a b) Q E s) : OpR X (compareOp op) (rOrd X.K g) := by
  intro pins s σ H x y v u Q I rx ry z
  obtain ⟨d, e, hd, he, al, nn, hl, q⟩ := z
  obtain ⟨as, r1⟩ := Dp.reads I d x v hd rx
  obtain ⟨bs, r2⟩ := Dp.reads I e y u he ry
  have : min d.depth e.depth ≤ d.depth := Nat.min_le_left _ _
  exact h r1 r2 al nn (by omega) ⟨.bl _, H, I, rfl, q⟩
theorem op_geD (hu : X.A.units + 64 < cLine) : OpR X (compareOp .GtE) (rOrd X.K fun d e => !W.dataLt d e) := op_ordX hu W.ge_data
def gOrd (g : D → D → Bool) : D → D → Out D := fun x y => if ordOk x y = true then .ok (.bl (g x y)) else .bad
abbrev gGeD := gOrd fun x y => !ltD x y
theorem o_ord {g : PyData → PyData → Bool} : Op2' cm b (rOrd X.K g) (gOrd fun x y => g (toPy x) (toPy y)) := fun W H x y dx dy w rx ry Q hp => by
  unfold gOrd at hp
  split at hp
  · rename_i h
    simp only [ordOk, Bool.and_eq_true, Bool.not_eq_true'] at h
    obtain ⟨⟨⟨⟨⟨h1, h2⟩, h3⟩, _⟩, h4⟩, h5⟩ := h
    exact ⟨toPy dx, toPy dy, rx.dp h1, ry.dp h2, h4, toPy_non h1 h5, dle_py _ _ h1 h3, hp _ H [] (Ex.refl H) (.bl _) FpN.nil⟩
  · exact hp.elim
theorem noEx_ord {g : D → D → Bool} : NoEx (gOrd g) := fun a b x r h => by
  unfold gOrd at h
  split at h <;> cases h
theorem dt_geD (hu : X.A.units + 64 < cLine) (ha : DE X cm E false a fa) (hb : DE X cm E false c fb) : DT X cm E (.Compare a [.GtE] [c] pos) (tB (c2 gGeD fa fb)) := dt_cmp (op_geD hu) o_ord noEx_ord (nomark _) ha hb
end
section
variable {prog : Program} {w : World} {A : Around} {E : Value → Shared → Prop} {s : Shared}
theorem iter_pair {a b : Value} {Q : Value → Shared → Prop} (hh : A.handled = none)
    (h : ∀ (I : Addr) (s₂ : Shared) (St : Nat → Shared → Prop), WalksS prog w A I [I, s.heap.objs.size] [I] (fun x y => y = x) 2 (fun i v => #[a, b][i]? = some v) St → St 0 s₂ → (∀ c ∈ [I, s.heap.objs.size], c < s₂.heap.objs.size) → (∀ c o, s.heap.get? c = some o → c ∉ [I]) → (∀ c o, s.heap.get? c = some o → s₂.heap.get? c = some o) →
      (∀ s', Moved [I] (fun x y => y = x) s₂ s' → ∃ h' tk, s' = { s with heap := h', toks := tk } ∧ ∀ c o, s.heap.get? c = some o → h'.get? c = some o) → Q (.ref I) s₂) :
    wpAny (model prog w) A (pyIter (.ref s.heap.objs.size)) Q E { s with heap := s.heap.push { cls := .type "tuple", data := .seq #[a, b] } } := by
  have hT : (s.heap.push { cls := .type "tuple", data := .seq #[a, b] }).IsTuple s.heap.objs.size #[a, b] := ⟨_, Heap.get?_push_size _ rfl, rfl, 0, rfl⟩
  refine W.iter_tupleW (s := { s with heap := s.heap.push { cls := .type "tuple", data := .seq #[a, b] } }) hh hT ?_
  intro s₂ e W0 st hfp hw hk
  refine h _ s₂ _ W0 st hfp (fun c o q => hw c o (Heap.get?_push_of_some _ q)) (fun c o q => hk c o (Heap.get?_push_of_some _ q)) fun s' m => ?_
  obtain ⟨h', tk, rfl, k'⟩ := W.moved_old e rfl m
  exact ⟨h', tk, rfl, fun c o q => k' c o (Heap.get?_push_of_some _ q)⟩
theorem cmp_pair {op : CmpOp} {g : PyData → PyData → Bool} {a b : Value} {da db : PyData} {as bs : List Addr} (ra : Reads s.heap a da as) (rb : Reads s.heap b db bs) (haa : W.alike da da = true) (hbb : W.alike db db = true) (hab : W.alike da db = true) (hba : W.alike db da = true) (na : da ≠ .none) (nb : db ≠ .none) (hu : A.units + 64 < cLine) (la : da.depth ≤ 60) (lb : db.depth ≤ 60)
    (h : ∀ (da db : PyData) (A : Around) (s : Shared) (a b : Value) (as bs : List Addr), Reads s.heap a da as → Reads s.heap b db bs → W.alike da db = true → da ≠ .none → A.units + min da.depth db.depth < cLine → ∀ (prog : Program) (w : World) (E : Value → Shared → Prop) (Q : Value → Shared → Prop), Q (.bool (g da db)) s → wpAny (model prog w) A (richCompare op a b) Q E s) :
    CmpIn prog w A op s.heap (fun i v => #[a, b][i]? = some v) (fun i j => g ([da, db].getD i .none) ([da, db].getD j .none)) := by
  intro i j vi vj s' Q E hk hi hj hq
  have pick : ∀ (i : Nat) (v : Value), #[a, b][i]? = some v → (i = 0 ∧ v = a) ∨ (i = 1 ∧ v = b) := by
    intro i v hv
    match i, hv with
    | 0, hv => exact .inl ⟨rfl, by simpa using hv.symm⟩
    | 1, hv => exact .inr ⟨rfl, by simpa using hv.symm⟩
    | i + 2, hv => simp at hv
  have ra' := W.reads_keeps hk ra
  have rb' := W.reads_keeps hk rb
  rcases pick i vi hi with ⟨rfl, rfl⟩ | ⟨rfl, rfl⟩ <;> rcases pick j vj hj with ⟨rfl, rfl⟩ | ⟨rfl, rfl⟩
  · exact h da da A s' _ _ _ _ ra' ra' haa na (by omega) prog w E Q hq
  · exact h da db A s' _ _ _ _ ra' rb' hab na (by omega) prog w E Q hq
  · exact h db da A s' _ _ _ _ rb' ra' hba nb (by omega) prog w E Q hq
  · exact h db db A s' _ _ _ _ rb' rb' hbb nb (by omega) prog w E Q hq
theorem max_two_data {a b : Value} {da db : PyData} {as bs : List Addr} {Q : Value → Shared → Prop} (hh : A.handled = none) (ra : Reads s.heap a da as) (rb : Reads s.heap b db bs) (haa : W.alike da da = true) (hbb : W.alike db db = true) (hab : W.alike da db = true) (hba : W.alike db da = true) (na : da ≠ .none) (nb : db ≠ .none) (hu : A.units + 70 < cLine) (la : da.depth ≤ 60) (lb : db.depth ≤ 60)
    (h : ∀ h' tk, (∀ c o, s.heap.get? c = some o → h'.get? c = some o) → Q (if W.dataLt da db = true then b else a) { s with heap := h', toks := tk }) : wpAny (model prog w) A (call (.builtin "max") [a, b]) Q E s := by
  have hname : (toString "max" ++ toString ".loop" : String) = "max.loop" := by decide
  apply call_function_tree F.kind_max F.plain_max F.entry_max (F.args_max2 _ _)
  show wpAny _ A.in1 (Builtin.Builtins.bindParams "max" ["key", "default"] 0 ⟨[], []⟩ >>= _) _ _ s
  apply wpAny_bind
  apply wpAny_of_eq (a := [none, none]) (show Builtin.Builtins.bindParams "max" ["key", "default"] 0 ⟨[], []⟩ = pure [none, none] from rfl)
  show wpAny _ A.in1 (newTuple [a, b] >>= _) _ _ s
  apply wpAny_bind
  refine wpAny_newObj_type ?_
  apply wpAny_bind
  apply iter_pair (A := A.in1) hh
  intro I s₂ St Wk st hfp hw hk old
  apply wpAny_bind
  refine wpAny_newObj_type ?_
  have hSf : s₂.heap.objs.size ∉ [I, s.heap.objs.size] := fun hm => Nat.lt_irrefl _ (hfp _ hm)
  rw [hname]
  apply wpAny_pure
  refine ⟨plainId_quiet F.plain_max_loop _, codeAny_max_loop_firstH Wk s.heap hw _ (cmp_pair (A := A.in1) (op := .Gt) (g := fun x y => W.dataLt y x) ra rb haa hbb hab hba na nb (by show A.units + 1 + 64 < cLine; omega) la lb (fun da db A s a b as bs => W.rcGt_alike da db A s a b as bs)) s₂.heap.objs.size hSf (fresh_in hk) _ (by decide) (fun c o e => Heap.get?_push_of_some _ (hk c o e)) (Wk.frame 0 s₂ _ s₂.toks st (Nat.le_refl _) fun c _ o e => Heap.get?_push_of_some _ e) (Heap.get?_push_size _ rfl) ?_⟩
  intro v s' hP hm
  obtain ⟨h', tk, rfl, k'⟩ := old s' (Moved.drop_new (tk := s₂.toks) hm (Nat.le_refl _))
  have e : v = if W.dataLt da db = true then b else a := by
    simp only [argBest, Nat.reduceSub] at hP
    by_cases q : W.dataLt da db = true
    · rw [if_pos q]; simp [q] at hP; exact hP.symm
    · rw [if_neg q]; simp [q] at hP; exact hP.symm
  rw [e]
  exact h h' tk k'
theorem min_two_data {a b : Value} {da db : PyData} {as bs : List Addr} {Q : Value → Shared → Prop} (hh : A.handled = none) (ra : Reads s.heap a da as) (rb : Reads s.heap b db bs) (haa : W.alike da da = true) (hbb : W.alike db db = true) (hab : W.alike da db = true) (hba : W.alike db da = true) (na : da ≠ .none) (nb : db ≠ .none) (hu : A.units + 70 < cLine) (la : da.depth ≤ 60) (lb : db.depth ≤ 60)
    (h : ∀ h' tk, (∀ c o, s.heap.get? c = some o → h'.get? c = some o) → Q (if W.dataLt db da = true then b else a) { s with heap := h', toks := tk }) : wpAny (model prog w) A (call (.builtin "min") [a, b]) Q E s := by
  have hname : (toString "min" ++ toString ".loop" : String) = "min.loop" := by decide
  apply call_function_tree F.kind_min F.plain_min F.entry_min (F.args_min2 _ _)
  show wpAny _ A.in1 (Builtin.Builtins.bindParams "min" ["key", "default"] 0 ⟨[], []⟩ >>= _) _ _ s
  apply wpAny_bind
  apply wpAny_of_eq (a := [none, none]) (show Builtin.Builtins.bindParams "min" ["key", "default"] 0 ⟨[], []⟩ = pure [none, none] from rfl)
  show wpAny _ A.in1 (newTuple [a, b] >>= _) _ _ s
  apply wpAny_bind
  refine wpAny_newObj_type ?_
  apply wpAny_bind
  apply iter_pair (A := A.in1) hh
  intro I s₂ St Wk st hfp hw hk old
  apply wpAny_bind
  refine wpAny_newObj_type ?_
  have hSf : s₂.heap.objs.size ∉ [I, s.heap.objs.size] := fun hm => Nat.lt_irrefl _ (hfp _ hm)
  rw [hname]
  apply wpAny_pure
  refine ⟨plainId_quiet F.plain_min_loop _, codeAny_min_loop_firstH Wk s.heap hw _ (cmp_pair (A := A.in1) (op := .Lt) (g := fun x y => W.dataLt x y) ra rb haa hbb hab hba na nb (by show A.units + 1 + 64 < cLine; omega) la lb (fun da db A s a b as bs => W.rcLt_alike da db A s a b as bs)) s₂.heap.objs.size hSf (fresh_in hk) _ (by decide) (fun c o e => Heap.get?_push_of_some _ (hk c o e)) (Wk.frame 0 s₂ _ s₂.toks st (Nat.le_refl _) fun c _ o e => Heap.get?_push_of_some _ e) (Heap.get?_push_size _ rfl) ?_⟩
  intro v s' hP hm
  obtain ⟨h', tk, rfl, k'⟩ := old s' (Moved.drop_new (tk := s₂.toks) hm (Nat.le_refl _))
  have e : v = if W.dataLt db da = true then b else a := by
    simp only [argBest, Nat.reduceSub] at hP
    by_cases q : W.dataLt db da = true
    · rw [if_pos q]; simp [q] at hP; exact hP.symm
    · rw [if_neg q]; simp [q] at hP; exact hP.symm
  rw [e]
  exact h h' tk k'
end
end DL

namespace DL
variable [Tbs]
open PySem L2
section
variable {X : Cx} {cm : Cm} {E : XS} {b : Bool} {pos p : Pos} {a c : Expr}
def ordOk2 (x y : D) : Bool := ordOk x y && ordOk y x && ordOk x x && ordOk y y
def rPick (K : PySem.W.Frag) (g : PyData → PyData → Bool) : List V → Hp → VK → Prop := fun xs H Q => ∃ x y d e, xs = [x, y] ∧ Dp K H x d ∧ Dp K H y e ∧ W.alike d d = true ∧ W.alike e e = true ∧ W.alike d e = true ∧ W.alike e d = true ∧ d ≠ .none ∧ e ≠ .none ∧ d.depth ≤ 60 ∧ e.depth ≤ 60 ∧ Q (if g d e = true then y else x) H
theorem call_maxD (hc : X.calm = true) (hu : X.A.units + 70 < cLine) : CallR X (.builtin "max") (rPick X.K fun d e => W.dataLt d e) := by
  intro pins s σ H xs us Q I r h
  obtain ⟨x, y, d, e, rfl, hd, he, h1, h2, h3, h4, n1, n2, l1, l2, q⟩ := h
  obtain ⟨u, v, rfl, rx, ry⟩ := vals2 r
  obtain ⟨as, r1⟩ := Dp.reads I d x u hd rx
  obtain ⟨bs, r2⟩ := Dp.reads I e y v he ry
  refine max_two_data (I.ok.hd hc) r1 r2 h1 h2 h3 h4 n1 n2 hu l1 l2 fun h' tk k => ⟨_, H, I.kept k, ?_, q⟩
  split
  · exact ry
  · exact rx
theorem call_minD (hc : X.calm = true) (hu : X.A.units + 70 < cLine) : CallR X (.builtin "min") (rPick X.K fun d e => W.dataLt e d) := by
  intro pins s σ H xs us Q I r h
  obtain ⟨x, y, d, e, rfl, hd, he, h1, h2, h3, h4, n1, n2, l1, l2, q⟩ := h
  obtain ⟨u, v, rfl, rx, ry⟩ := vals2 r
  obtain ⟨as, r1⟩ := Dp.reads I d x u hd rx
  obtain ⟨bs, r2⟩ := Dp.reads I e y v he ry
  refine min_two_data (I.ok.hd hc) r1 r2 h1 h2 h3 h4 n1 n2 hu l1 l2 fun h' tk k => ⟨_, H, I.kept k, ?_, q⟩
  split
  · exact ry
  · exact rx
def gPick (g : D → D → Bool) : List D → Out D
  | [x, y] => if ordOk2 x y = true then .ok (if g x y = true then y else x) else .bad
  | _ => .bad
abbrev gMxD := gPick fun x y => ltD x y
abbrev gMnD := gPick fun x y => ltD y x
theorem Reps.two {W : Addr → Prop} {H : Hp} {vs : List V} {x y : D} (h : Reps cm W H vs [x, y] []) : ∃ u v, vs = [u, v] ∧ Rep cm W H u x [] ∧ Rep cm W H v y [] := by
  generalize hf : ([] : List Addr) = fp at h
  cases h with
  | cons k1 k2 =>
    rename_i f1 vs' f2
    have e1 : f1 = [] := (List.append_eq_nil_iff.mp hf.symm).1
    have e2 : f2 = [] := (List.append_eq_nil_iff.mp hf.symm).2
    subst e1
    generalize hg : f2 = g at k2
    cases k2 with
    | cons k2 k3 =>
      rename_i f3 vs'' f4
      cases k3
      rw [e2] at hg
      have e3 : f3 = [] := (List.append_eq_nil_iff.mp hg.symm).1
      subst e3
      exact ⟨_, _, rfl, k1, k2⟩
theorem ra_pick {g : PyData → PyData → Bool} : RA cm b (rPick X.K g) (gPick fun x y => g (toPy x) (toPy y)) := fun W H vs ds w rp Q hp => by
  unfold gPick at hp
  split at hp
  · rename_i x y
    split at hp
    · rename_i h
      simp only [ordOk2, ordOk, Bool.and_eq_true, Bool.not_eq_true'] at h
      obtain ⟨⟨⟨⟨⟨⟨⟨⟨h1, h2⟩, h3⟩, h4⟩, h5⟩, h6⟩, ⟨⟨_, h7⟩, h8⟩⟩, ⟨⟨_, h9⟩, _⟩⟩, ⟨⟨_, h10⟩, _⟩⟩ := h
      obtain ⟨u, v, rfl, k1, k2⟩ := rp.two
      refine ⟨u, v, toPy x, toPy y, rfl, k1.dp h1, k2.dp h2, h9, h10, h5, h7, toPy_non h1 h6, toPy_non h2 h8, dle_py _ _ h1 h3, dle_py _ _ h2 h4, hp _ H [] (Ex.refl H) ?_ FpN.nil⟩
      split
      · exact k2.toP
      · exact k1.toP
    · exact hp.elim
  · exact hp.elim
theorem noEx_pick {g : D → D → Bool} : NoExA (gPick g) := fun a x r h => by
  unfold gPick at h
  split at h
  · split at h <;> cases h
  · cases h
theorem de_maxD {fs : Env → Out (List D)} (hc : X.calm = true) (hu : X.A.units + 70 < cLine) (hg : Gl X "max") (hm : X.mg "max" = none) (ha : DA X cm E false [a, c] fs) (he : starEach [a, c] X.env = (false, eval a X.env) :: starEach [c] X.env := by rfl) (hpl : (backTo pos (starEach [c] X.env)).any (·.1) = false := by rfl) : DE X cm E b (.Call (.Name "max" p) [a, c] [] pos) (cA gMxD fs) :=
  de_blt (call_maxD hc hu) ra_pick noEx_pick hg hm (by decide +kernel) ha (by decide) (by decide) he hpl
theorem de_minD {fs : Env → Out (List D)} (hc : X.calm = true) (hu : X.A.units + 70 < cLine) (hg : Gl X "min") (hm : X.mg "min" = none) (ha : DA X cm E false [a, c] fs) (he : starEach [a, c] X.env = (false, eval a X.env) :: starEach [c] X.env := by rfl) (hpl : (backTo pos (starEach [c] X.env)).any (·.1) = false := by rfl) : DE X cm E b (.Call (.Name "min" p) [a, c] [] pos) (cA gMnD fs) :=
  de_blt (call_minD hc hu) ra_pick noEx_pick hg hm (by decide +kernel) ha (by decide) (by decide) he hpl
end
theorem RoomG.un70 {k : Nat} {A : Around} (r : RoomG k A) : A.units + 70 < cLine := by have := r.rm.un; omega
mutual
def shortD : D → Bool
  | .int i => decide (i.natAbs < 10 ^ 40)
  | .str x => x.all fun c => decide (c < 1114112)
  | .lst _ xs => shortDs xs
  | .tup xs => shortDs xs
  | _ => true
def shortDs : List D → Bool
  | [] => true
  | x :: xs => shortD x && shortDs xs
end
mutual
def bulkD : D → Nat
  | .str x => x.length
  | .lst _ xs => bulkDs xs
  | .tup xs => bulkDs xs
  | _ => 0
def bulkDs : List D → Nat
  | [] => 0
  | x :: xs => bulkD x + 1 + bulkDs xs
end
mutual
theorem bulk_py : ∀ d : D, plainD d = true → (toPy d).bulk = bulkD d
  | .non, _ => rfl
  | .bl _, _ => rfl
  | .int _, _ => rfl
  | .str x, _ => by simp [toPy, PyData.bulk, bulkD]
  | .lst _ xs, h => by simp only [toPy, PyData.bulk, bulkD]; exact bulks_py xs h
  | .tup xs, h => by simp only [toPy, PyData.bulk, bulkD]; exact bulks_py xs h
  | .dK _ _ _, h => nomatch h
  | .dT _ _ _, h => nomatch h
  | .dN _ _ _, h => nomatch h
  | .obj _ _ _ _, h => nomatch h
  | .scr _, h => nomatch h
theorem bulks_py : ∀ xs : List D, plainDs xs = true → PyData.bulkAll (toPys xs) = bulkDs xs
  | [], _ => rfl
  | x :: xs, h => by
    simp only [plainDs, Bool.and_eq_true] at h
    simp only [toPys, PyData.bulkAll, bulkDs]
    rw [bulk_py x h.1, bulks_py xs h.2]
end
theorem short_int {i : Int} (h : i.natAbs < 10 ^ 40) : (PyData.shown (.int i)).length ≤ 45 := by
  have e := int_text_length_le10 (k := 40) (by decide) h
  show (Str.ofString (toString i)).length ≤ 45
  rw [ofString_length]; omega
mutual
theorem short_py : ∀ d : D, plainD d = true → shortD d = true → (toPy d).leavesShort 45 = true ∧ (toPy d).showable = true ∧ (toPy d).hasDict = false
  | .non, _, _ => ⟨rfl, rfl, rfl⟩
  | .bl _, _, _ => ⟨rfl, rfl, rfl⟩
  | .int i, _, h => by
    simp only [shortD, decide_eq_true_eq] at h
    refine ⟨?_, ?_, rfl⟩
    · simp only [toPy, PyData.leavesShort, decide_eq_true_eq]
      exact short_int h
    · simp only [toPy, PyData.showable, decide_eq_true_eq]
      by_cases z : i.natAbs = 0
      · rw [z]; decide
      · exact (Nat.log2_lt z).mpr (Nat.lt_of_lt_of_le (Nat.lt_trans h (show 10 ^ 40 < 2 ^ 200 by decide)) (Nat.pow_le_pow_right (by decide) (by decide)))
  | .str x, _, h => by
    refine ⟨?_, rfl, rfl⟩
    simp only [shortD, List.all_eq_true, decide_eq_true_eq] at h
    simp only [toPy, PyData.leavesShort, List.all_eq_true, decide_eq_true_eq]
    intro c hc
    exact Nat.lt_trans (h c (by simpa using hc)) (by decide)
  | .lst _ xs, p, h => by
    have := shorts_py xs p h
    simp only [toPy, PyData.leavesShort, PyData.showable, PyData.hasDict]
    exact this
  | .tup xs, p, h => by
    have := shorts_py xs p h
    simp only [toPy, PyData.leavesShort, PyData.showable, PyData.hasDict]
    exact this
  | .dK _ _ _, h, _ => nomatch h
  | .dT _ _ _, h, _ => nomatch h
  | .dN _ _ _, h, _ => nomatch h
  | .obj _ _ _ _, h, _ => nomatch h
  | .scr _, h, _ => nomatch h
theorem shorts_py : ∀ xs : List D, plainDs xs = true → shortDs xs = true → PyData.leavesShortAll 45 (toPys xs) = true ∧ PyData.showableAll (toPys xs) = true ∧ PyData.hasDictAll (toPys xs) = false
  | [], _, _ => ⟨rfl, rfl, rfl⟩
  | x :: xs, p, h => by
    simp only [plainDs, Bool.and_eq_true] at p
    simp only [shortDs, Bool.and_eq_true] at h
    obtain ⟨a1, a2, a3⟩ := short_py x p.1 h.1
    obtain ⟨b1, b2, b3⟩ := shorts_py xs p.2 h.2
    simp [toPys, PyData.leavesShortAll, PyData.showableAll, PyData.hasDictAll, a1, a2, a3, b1, b2, b3]
end
def reprOk (d : D) : Bool := plainD d && dle 60 d && shortD d && decide (bulkD d ≤ 20000)
def reprL (d : D) : List Nat := (toPy d).shown.cps.toList
def emptyK : D → Bool
  | .dK _ [] [] => true
  | _ => false
def gRepr : D → Out D := fun d => if reprOk d = true then .ok (.str (reprL d)) else if emptyK d = true then .ok (.str [123, 125]) else .bad
section
variable {X : Cx} {cm : Cm} {E : XS} {b : Bool} {pos p : Pos} {a c : Expr}
def rRepr (K : PySem.W.Frag) : List V → Hp → VK → Prop := fun xs H Q => ∃ x d, xs = [x] ∧ Dp K H x d ∧ d.showable = true ∧ d.hasDict = false ∧ d.depth ≤ 60 ∧ d.shown.length ≤ sizeLine ∧ Q (.str d.shown) H
theorem call_reprK (hg : X.A.guards = some []) (hu : X.A.units + 64 < cLine) : CallR X (.builtin "repr") (fun xs H Q => ∃ p, xs = [.ref p] ∧ Rd H p (.dK []) ∧ Q (.str ⟨[123, 125].toArray⟩) H) := by
  intro pins s σ H xs us Q I r h
  obtain ⟨p, rfl, hd, q⟩ := h
  obtain ⟨u, rfl, rx⟩ := vals1 r
  cases (show u = Value.ref p from rx)
  obtain ⟨_, hS, vs, kv, o, es, ep, h1, h2, h3, h4, h5, h6⟩ := dk_rd I.hok hd
  cases kv
  have hes : es.toList = [] := List.length_eq_zero_iff.mp (by have := h5.length; simpa using this)
  have r1 : Reads s.heap (.ref p) (.dict []) (p :: [] ++ []) := .dict h1 h2.1 h3 (by rw [hes]; exact .nil) (by rw [hes]; exact .nil)
  have fin : ∀ h' u tk, (∀ b o, s.heap.get? b = some o → h'.get? b = some o) → EP X pins σ Q (.str (PyData.dict []).shown u) { s with heap := h', toks := tk } := fun h' u tk k => ⟨.str ⟨[123, 125].toArray⟩, H, I.kept k, ⟨u, rfl⟩, q⟩
  exact repr_of_reads' r1 rfl (fun _ m => by
    have : sysModules = p := by simpa using m
    rw [this] at hS
    simp at hS) hg (by show X.A.units + (PyData.depth (.dict []) + 1) < cLine; have : PyData.depth (.dict []) ≤ 1 := by decide
                       omega) (fun _ _ e => e) fin (by decide)
theorem call_reprD (hg : X.A.guards = some []) (hu : X.A.units + 64 < cLine) : CallR X (.builtin "repr") (rRepr X.K) := by
  intro pins s σ H xs us Q I r h
  obtain ⟨x, d, rfl, hd, h1, h2, h3, h4, q⟩ := h
  obtain ⟨u, rfl, rx⟩ := vals1 r
  obtain ⟨as, r1⟩ := Dp.reads I d x u hd rx
  have fin : ∀ h' u tk, (∀ b o, s.heap.get? b = some o → h'.get? b = some o) → EP X pins σ Q (.str d.shown u) { s with heap := h', toks := tk } := fun h' u tk k => ⟨.str d.shown, H, I.kept k, ⟨u, rfl⟩, q⟩
  have fin0 : ∀ tk, EP X pins σ Q (.str d.shown s.toks) { s with toks := tk } := fun tk => fin s.heap _ tk fun _ _ e => e
  cases d with
  | none => cases r1; exact P.repr_of_none (fin0 _)
  | bool b => cases r1; exact P.repr_of_bool (fin0 _)
  | int i =>
    cases r1
    exact P.repr_of_int (by simpa [PyData.showable] using h1) (fin0 _)
  | str z => cases r1; exact P.repr_of_str (fin0 _) h4
  | list ys =>
    have : ∃ a, u = .ref a := by cases r1; exact ⟨_, rfl⟩
    obtain ⟨a, rfl⟩ := this
    exact repr_of_reads' r1 h1 (fun z => by rw [h2] at z; cases z) hg (by omega) (fun _ _ e => e) fin h4
  | tuple ys =>
    have : ∃ a, u = .ref a := by cases r1; exact ⟨_, rfl⟩
    obtain ⟨a, rfl⟩ := this
    exact repr_of_reads' r1 h1 (fun z => by rw [h2] at z; cases z) hg (by omega) (fun _ _ e => e) fin h4
  | dict kvs => cases h2
theorem de_repr {fs : Env → Out (List D)} (hg : X.A.guards = some []) (hu : X.A.units + 64 < cLine) (hgl : Gl X "repr") (hm : X.mg "repr" = none) (ha : DA X cm E false [a] fs) (he : starEach [a] X.env = (false, eval a X.env) :: starEach [] X.env := by rfl) (hpl : (backTo pos (starEach [] X.env)).any (·.1) = false := by rfl) : DE X cm E b (.Call (.Name "repr" p) [a] [] pos) (cA (g1 gRepr) fs) :=
  de_blt (CallR.or (call_reprD hg hu) (call_reprK hg hu)) (ra_1 fun W H v d w rp Q hp => by
    unfold gRepr at hp
    split at hp
    · left
      rename_i h
      simp only [reprOk, Bool.and_eq_true, decide_eq_true_eq] at h
      obtain ⟨⟨⟨h1, h2⟩, h3⟩, h4⟩ := h
      obtain ⟨s1, s2, s3⟩ := short_py d h1 h3
      have hb := PyData.shown_le_bulk 45 (by decide) (toPy d) s1
      rw [bulk_py d h1] at hb
      have hl : (toPy d).shown.length ≤ 1000000 := by omega
      refine ⟨v, toPy d, rfl, rp.dp h1, s2, s3, dle_py _ _ h1 h2, Nat.le_trans hl (by decide), hp _ H [] (Ex.refl H) ?_ FpN.nil⟩
      exact Rep.str _
    · split at hp
      · right
        rename_i h
        unfold emptyK at h
        split at h
        · generalize hf : ([] : List Addr) = fp at rp
          cases rp with
          | dKO => cases hf
          | dKF h1 l n rs =>
            cases rs
            exact ⟨_, rfl, h1, hp _ H [] (Ex.refl H) (Rep.str _) FpN.nil⟩
        · cases h
      · exact hp.elim) (fun a x r h => by
      unfold g1 at h
      split at h
      · unfold gRepr at h
        split at h
        · cases h
        · split at h <;> cases h
      · cases h) hgl hm (by decide +kernel) ha (by decide) (by decide) he hpl
end
end DL

namespace DL
variable [Tbs]
open PySem L2
def sRaise (c : Str) : FS := fun r => .exn ⟨c, [], []⟩ r
abbrev TakesG (X : Cx) (E : XS) : Prop := Takes X fun cls d σ H => E σ cls d H
theorem TakesG.pass {X : Cx} {E : XS} (t : TakesG X E) : PassG X E := fun σ => passAt t σ
section
variable {X : Cx} {cm : Cm} {E : XS} {pos : Pos} {ks : Nat → Bool}
structure ExcT (K : PySem.W.Frag) (mg : Str → Option Value) (cm : Cm) (c : Str) : Prop where
  g : mg c = some (.ref (cm.cl c))
  x : PySem.W.excIn K (cm.cl c) [.type "ValueError", .type "Exception", .type "BaseException", .type "object"] "ValueError.__new__" = true
  k : PySem.W.keepIn K (.ref (cm.cl c)) = true
  b : PySem.W.subIn K (.ref (cm.cl c)) (.type "BaseException") = some true
  t : PySem.W.typeIn K (.ref (cm.cl c)) = some (.type "type")
end
end DL

namespace DL
variable [Tbs]
open PySem L2
def sTry (sub : Str → Option Bool) (i j : Nat) (body : FS) : FS := fun r => match body r with
  | .exn x r' => match sub x.cls with
    | some true => if i < r'.length ∧ j < r'.length ∧ x.fs.length = x.ds.length then .nx (((r'.set i none).set j (some (.exc x.cls x.fs x.ds))).set i none) else .bad
    | some false => .exn x r'
    | none => .bad
  | o => o
def tsOf (cm : Cm) (E : XS) (ks : Nat → Bool) (g : FS) : TS := fun D σ H => ∃ W0 r fps, Good cm W0 H σ r fps ∧ SPost cm E W0 H σ fps ks D (g r)
theorem DSs.pss {X : Cx} {cm : Cm} {E : XS} {ks : Nat → Bool} {st : List Stmt} {g : FS} (h : DSs X cm E ks st g) : PSs X st (tsOf cm E ks g) := by
  obtain ⟨ts, h1, h2⟩ := h.ex
  exact ⟨fun pins s σ H D I ⟨W0, r, fps, gd, q⟩ => h1.run pins s σ H D I (h2 W0 H σ r fps gd D q)⟩
section
variable {X : Cx} {cm : Cm} {E : XS} {pos : Pos} {ks : Nat → Bool}
theorem Good.clear {W0 : Addr → Prop} {H : Hp} {σ : St} {r : Env} {fps : Fps} (g : Good cm W0 H σ r fps) (i : Nat) (x : Option V) : Good cm W0 H (σ.set i x) (r.set i none) (fun j => if j = i then [] else fps j) := by
  have sub : ∀ {j a}, a ∈ (if j = i then [] else fps j) → j ≠ i ∧ a ∈ fps j := fun {j a} m => by
    split at m
    · cases m
    · exact ⟨by assumption, m⟩
  refine ⟨by simp [g.len], g.w0, fun k d h => ?_, fun j => ?_, fun j k a m m' => g.dj j k a (sub m).2 (sub m').2, fun j a m => g.nw j a (sub m).2, fun j a m => g.mu j a (sub m).2⟩
  · by_cases e : i = k
    · subst e
      rw [List.getElem?_set] at h
      simp at h
    · rw [List.getElem?_set_ne e] at h
      obtain ⟨v, h1, h2⟩ := g.sl k d h
      refine ⟨v, by rw [List.getElem?_set_ne e]; exact h1, ?_⟩
      rw [if_neg (Ne.symm e)]
      exact h2.move (fun a z => .inl (z.imp id fun ⟨j, m⟩ => ⟨j, (sub m).2⟩)) fun _ _ q _ _ => q
  · split
    · exact List.nodup_nil
    · exact g.nd j
theorem XRep.kept {W0 : Addr → Prop} {H : Hp} {σ : St} {r : Env} {fps : Fps} {x : Xc} {dx : Option Addr} {a : Addr} (g : Good cm W0 H σ r fps) (h : XRep cm (Wof W0 fps) H x dx) (hl : x.fs.length = x.ds.length) (na : H a = none) : Rep cm (Wof W0 fps) (upd H a (ExK (.ref (cm.cl x.cls)) dx a)) (.ref a) (.exc x.cls x.fs x.ds) [] := by
  have hex : Ex H (upd H a (ExK (.ref (cm.cl x.cls)) dx a)) := Ex.new na
  have nW : ∀ b o, H b = some o → isM o = false → ¬ Wof W0 fps b := fun b o q m z => by
    obtain ⟨u, e, f⟩ := g.wof.1 b z
    rw [q] at e
    cases e
    rw [m] at f
    cases f
  have nA : ¬ Wof W0 fps a := fun z => (g.wof.1 a z).there na
  rcases h with ⟨h1, h2⟩ | ⟨b, vs, h1, h2, h3, h4⟩
  · have hd : x.ds = [] := List.length_eq_zero_iff.mp (by rw [← hl, h1]; rfl)
    rw [hd]
    exact .exc (vs := []) upd_same nA (.inl ⟨h1, h2⟩) (by rw [h1]; rfl) .nil
  · exact .exc (vs := vs) upd_same nA (.inr ⟨b, h1, hex b _ h2, nW b _ h2 rfl⟩) h3 (h4.ex hex)
end
end DL

namespace DL
variable [Tbs]
open PySem PySem.W PyProof.Rows
section
variable {prog : Program} {w : World} {A : Around} {E : Value → Shared → Prop} {s : Shared} {K : Frag} {x C : Addr} {ox : Obj} {od : Option Obj}
end
end DL
namespace DL
variable [Tbs]
open PySem L2
section
variable {X : Cx} {cm : Cm} {E : XS} {b : Bool} {pos p : Pos} {a : Expr} {fa : F}
def gIsX (kit : Str → Option Bool) : D → Out D := fun d => match d with
  | .exc k _ _ => match kit k with
    | some b => .ok (.bl b)
    | none => .bad
  | _ => .bad
inductive NamesC (X : Cx) (cm : Cm) : List Expr → List Value → TA → Prop
  | nil : NamesC X cm [] [] tNil
  | own {c : Str} {p : Pos} {es : List Expr} {us : List Value} {t : TA} (hg : Gl X c) (hm : X.mg c = some (.ref (cm.cl c))) (hdb : (c == ("__debug__" : Str)) = false) (h : NamesC X cm es us t) (hs : starEach (.Name c p :: es) X.env = (false, eval (.Name c p) X.env) :: starEach es X.env) : NamesC X cm (.Name c p :: es) (.ref (cm.cl c) :: us) (tCons (tC (.ref (cm.cl c))) t)
  | bl {c : Str} {tn : String} {p : Pos} {es : List Expr} {us : List Value} {t : TA} (hg : Gl X c) (hm : X.mg c = none) (hv : bootBuiltins c = some (.type tn)) (hnn : c ≠ "__name__") (hdb : (c == ("__debug__" : Str)) = false) (h : NamesC X cm es us t) (hs : starEach (.Name c p :: es) X.env = (false, eval (.Name c p) X.env) :: starEach es X.env) : NamesC X cm (.Name c p :: es) (.type tn :: us) (tCons (tC (.ty tn)) t)
theorem NamesC.pa {es : List Expr} {us : List Value} {t : TA} (h : NamesC X cm es us t) : PA X es t := by
  induction h with
  | nil => exact pa_nil
  | own hg hm hdb _ hs ih => exact pa_cons (pe_glob (v := .ref _) hg hm rfl hdb) ih hs
  | bl hg hm hv hnn hdb _ hs ih => exact pa_cons (pe_bltn (v := .ty _) hg hm hv rfl hnn hdb) ih hs
theorem NamesC.go {es : List Expr} {us : List Value} {t : TA} (h : NamesC X cm es us t) : ∃ cs, Paired ClsV cs us ∧ ∀ σ H Q, Q cs H → t σ H Q := by
  induction h with
  | nil => exact ⟨[], .nil, fun σ H Q q => q⟩
  | own hg hm hdb _ hs ih =>
    obtain ⟨cs, h1, h2⟩ := ih
    exact ⟨_ :: cs, .cons (.own _) h1, fun σ H Q q => h2 σ H _ q⟩
  | bl hg hm hv hnn hdb _ hs ih =>
    obtain ⟨cs, h1, h2⟩ := ih
    exact ⟨_ :: cs, .cons (.ty _) h1, fun σ H Q q => h2 σ H _ q⟩
end
end DL

namespace DL
variable [Tbs]
open PySem L2
section
variable {X : Cx} {cm : Cm} {E : XS} {b : Bool} {pos : Pos} {a c tg : Expr} {fa fb : F}
def gNewL : D → Out D := fun d => match d with
  | .lst true _ => .ok .non
  | _ => .bad
def cAppN (fa fb : F) : F := fun r => (fa r).bind fun d => match d with
  | .lst true ds => if ds.length < 1000000 then (fb r).bind fun _ => .ok .non else .bad
  | _ => .bad
theorem ex_new {H H1 : Hp} {p : Addr} {o : HO} (e : Ex H H1) (h : H p = none) (hm : MutAt H1 p) : Ex H (upd H1 p o) := e.updM h hm
def W2 (W : Addr → Prop) (Dl : Addr) (fp : List Addr) : Addr → Prop := fun a => W a ∨ a = Dl ∨ a ∈ fp
structure AccF (cm : Cm) (W : Addr → Prop) (H1 : Hp) (Dl : Addr) (H' : Hp) (ys : List D) (vs : List V) (fp : List Addr) : Prop where
  ex : Ex H1 H'
  dl : H' Dl = some (.lst vs)
  rp : Reps cm (W2 W Dl fp) H' vs ys fp
  fn : FpN true H1 fp
  nd : Dl ∉ fp
theorem AccF.later {W : Addr → Prop} {H1 H' : Hp} {Dl : Addr} {ys : List D} {vs : List V} {fp : List Addr} (h : AccF cm W H1 Dl H' ys vs fp) (w : WOk cm W H1) (hD : H1 Dl = none) : Later cm W H1 (W2 W Dl fp) H' := by
  refine ⟨fun a z => ?_, fun a o z _ t => h.ex.get a o z t, ⟨fun a z => ?_, h.ex.tb w.2⟩⟩
  · rcases z with z | z | z
    · exact .inl z
    · exact .inr (by rw [z]; exact hD)
    · exact .inr (h.fn.2 a z)
  · rcases z with z | z | z
    · exact (w.ex h.ex).1 a z
    · rw [z]; exact ⟨_, h.dl, rfl⟩
    · exact h.rp.own a z
theorem AccF.next {W : Addr → Prop} {H1 H' H2 : Hp} {Dl : Addr} {ys : List D} {vs : List V} {fp : List Addr} (h : AccF cm W H1 Dl H' ys vs fp) (e : Ex H' H2) : AccF cm W H1 Dl H2 ys vs fp := ⟨h.ex.trans e, e _ _ h.dl, h.rp.ex e, h.fn, h.nd⟩
theorem AccF.push {W : Addr → Prop} {H1 H4 H5 : Hp} {Dl : Addr} {ys : List D} {vs : List V} {fp fp5 : List Addr} {v5 : V} {y : D} (h : AccF cm W H1 Dl H4 ys vs fp) (hD : H1 Dl = none) (e5 : Ex H4 H5) (r5 : Rep cm (Wp (W2 W Dl fp) fp5) H5 v5 y fp5) (f5 : FpN true H4 fp5) : AccF cm W H1 Dl (upd H5 Dl (.lst (vs ++ [v5]))) (ys ++ [y]) (vs ++ [v5]) (fp ++ fp5) := by
  have hnD : ∀ a ∈ fp5, a ≠ Dl := fun a m z => by
    subst z
    have := f5.2 _ m
    rw [h.dl] at this
    cases this
  have nDn : ∀ a ∈ fp ++ fp5, a ≠ Dl := fun a m z => by
    rcases List.mem_append.mp m with m | m
    · subst z; exact h.nd m
    · exact hnD a m z
  have up : ∀ a, W2 W Dl (fp ++ fp5) a → W2 W Dl fp a ∨ a ∈ fp5 := fun a z => by
    rcases z with z | z | z
    · exact .inl (.inl z)
    · exact .inl (.inr (.inl z))
    · rcases List.mem_append.mp z with z | z
      · exact .inl (.inr (.inr z))
      · exact .inr z
  refine ⟨ex_new (h.ex.trans e5) hD ⟨_, e5 _ _ h.dl, rfl⟩, upd_same, ?_, ?_, fun m => nDn _ m rfl⟩
  · have keep : ∀ a o, H5 a = some o → isTb o = false → (¬ W2 W Dl (fp ++ fp5) a ∨ a ∈ fp ++ fp5) → upd H5 Dl (.lst (vs ++ [v5])) a = some o := fun a o z _ c => by
      rw [upd_ne]
      · exact z
      · rcases c with c | c
        · exact fun q => c (.inr (.inl q))
        · exact nDn a c
    have h1 : Reps cm (W2 W Dl (fp ++ fp5)) H5 vs ys fp := h.rp.move (fun a z => (up a z).imp id (f5.2 a)) fun a o z t _ => e5.get a o z t
    have h2 : Rep cm (W2 W Dl (fp ++ fp5)) H5 v5 y fp5 := r5.move (fun a z => .inl (up a z)) fun _ _ z _ _ => z
    have all : Reps cm (W2 W Dl (fp ++ fp5)) H5 (vs ++ [v5]) (ys ++ [y]) (fp ++ (fp5 ++ [])) := Reps.app h1 (.cons h2 .nil)
    rw [List.append_nil] at all
    exact all.move (fun a z => .inl z) keep
  · exact fpN_app h.fn (fun a m => (h.rp.own a m).there) h.ex f5
theorem FRep.later {W W' : Addr → Prop} {H1 H2 : Hp} {σ : St} {r : Env} (h : FRep cm W H1 σ r) (l : Later cm W H1 W' H2) : FRep cm W' H2 σ r := ⟨h.1, fun i d q => by
  obtain ⟨v, h1, h2⟩ := h.2 i d q
  exact ⟨v, h1, h2.later l⟩⟩
theorem Post.get {α : Type} {o : Out α} {q : α → Prop} (h : Post o q DL.noX) : ∃ a, o = .ok a ∧ q a := by
  cases o with
  | ok a => exact ⟨a, rfl, h⟩
  | exn x r => exact h.elim
  | bad => exact h.elim
def tab (l : List (Str × Bool)) (c : Str) : Option Bool := l.lookup c
def clT (l : List (Str × Addr)) (s : Str) : Addr := (l.lookup s).getD 0
end
end DL

namespace DL
variable [Tbs]
open PySem L2
section
variable {X : Cx} {cm : Cm} {E : XS} {b : Bool} {pos : Pos} {a c tg : Expr} {fa fb : F}
def gRevL : D → Out D := fun d => match d with
  | .lst _ xs => .ok (.lst true xs.reverse)
  | _ => .bad
def gTupOf : D → Out D := fun d => match d with
  | .lst _ xs => .ok (.tup xs)
  | .tup xs => .ok (.tup xs)
  | _ => .bad
theorem de_tupOf {p : Pos} (hg : Gl X "tuple") (hm : X.mg "tuple" = none) (ha : DE X cm E false a fa) (na : starEach [a] X.env = (false, eval a X.env) :: starEach [] X.env := by rfl) : DE X cm E b (.Call (.Name "tuple" p) [a] [] pos) (c1 gTupOf fa) := by
  obtain ⟨ta, h1, h2⟩ := ha.ex
  refine ⟨_, pe_tupleOf hg hm h1 na, fun W H σ r w fr Q hp => h2 W H σ r w fr _ (hp.bind.mono (fun d q v H1 fp e1 r1 f1 => ?_) fun _ _ z => z)⟩
  cases (show fp = [] from f1)
  unfold gTupOf at q
  split at q
  · generalize hf : ([] : List Addr) = fp at r1
    cases r1 with
    | lstO => cases hf
    | lstF h n rs =>
      refine .inl ⟨_, _, rfl, SqL.of h, fun p hp' => q (.ref p) _ [] (e1.trans (Ex.new hp')) (.tup upd_same ?_ (rs.ex (Ex.new hp'))) FpN.nil⟩
      intro z
      have := (w.ex e1).1 p (by simpa [Wp] using z)
      exact this.there hp'
  · generalize hf : ([] : List Addr) = fp at r1
    cases r1 with
    | tup h n rs =>
      subst hf
      exact .inr ⟨_, _, rfl, SqT.of h, q _ H1 [] e1 (.tup h n rs) FpN.nil⟩
  · exact q.elim
end
end DL

namespace DL
variable [Tbs]
open PySem L2
open PyProof.Rows (envOfC)
theorem guards_make {A : Around} {C : Addr} {us : List Value} {kw : List (Str × Value)} (h : A.guards = some []) : (A.under (.builtin "type.__call__" ⟨.ref C :: us, kw⟩)).guards = some [] := by
  first | exact h | simpa [Around.under, Code.weight, Code.isCreation, Code.isGuard, Code.isCaller, Code.frames, Code.isFrame, guardIds] using h
theorem RoomG.make {k : Nat} {A : Around} (r : RoomG (k + 1) A) (C : Addr) (us : List Value) (kw : List (Str × Value)) : RoomG k (A.under (.builtin "type.__call__" ⟨.ref C :: us, kw⟩)) := ⟨r.rm.make C us kw, guards_make r.gd⟩

def tMethG (C : Addr) (m : Str) (sp : Sp) (dvs : List V) (E : XS) (ta : TE) (t : TA) : TE := fun σ H Q => ta σ H fun x H1 => ∃ a dx fs, x = .ref a ∧ H1 a = some (.ins C dx fs) ∧ fs.lookup m = none ∧
  t σ H1 fun vs H2 => sp (x :: (vs ++ dvs)) H2 Q (E σ)
def tMakeG (C : Addr) (sp : Sp) (dvs : List V) (E : XS) (t : TA) : TE := fun σ H Q => t σ H fun vs H1 => ∀ x dx, H1 x = none → H1 dx = none → dx ≠ x →
  sp (.ref x :: (vs ++ dvs)) (upd (upd H1 dx (.own x)) x (.ins C dx [])) (fun v H2 => v = .non ∧ Q (.ref x) H2) (E σ)
section
variable {X : Cx} {k : Nat} {f C : Addr} {fd : FuncData} {ps : List Str} {sp : Sp} {dvs : List V} {ds : List Value} {E : XS} {x m : Str} {p pos apos : Pos} {e o : Expr} {es : List Expr} {ta : TE} {t : TA}
theorem pe_methG {pl : Sem Bool} (he : PE X o ta) (c : Cls X.K C) (hm : Meth X.K C m f) (F : FnG X.prog X.w X.K X.mg X.base k f fd ps sp) (hr : RoomG k X.A) (hb : Binds X.K fd ps ds) (hd : Vals dvs ds) (hx : PassG X E) (ha : PA X (e :: es) t)
    (hst : starEach (e :: es) X.env = (false, eval e X.env) :: starEach es X.env := by rfl) (hpl : (backTo pos (starEach es X.env)).any (·.1) = false := by rfl)
    (ht : eval (.Call (.Attribute o m apos) (e :: es) [] pos) X.env = (do
      let ov ← eval o X.env
      standAt apos.atName
      let (f, first) ← holding [ov] (getMethod ov m pl)
      callWith pos f first (backTo pos (starEach (e :: es) X.env)) (backToKw pos (keywordEach [] X.env))) := by rfl) :
    PE X (.Call (.Attribute o m apos) (e :: es) [] pos) (tMethG C m sp dvs E ta t) := by
  refine ⟨fun pins s σ H Q I h => ?_⟩
  refine PySem.W.methodCall_KW (pl := pl) (thn (he.run pins s σ H _ I h) fun u s1 ⟨x, H1, I1, rx, a, dx, fs, ex, ea, l, q⟩ => ?_) ht
  subst ex
  obtain rfl : u = Value.ref a := rx
  refine getmeth_ok I1 ea c hm l ?_
  refine PySem.W.callWith_K (first := [.ref a]) (h₀ := X.base) I.ok.mod.kin hm.kp (thn (ha.run pos pins s1 σ H1 _ I1 q) fun us s2 ⟨vs, H2, I2, r, q2⟩ => ⟨I2.kIn, ?_⟩) hst hpl
  exact run_fnG (us := .ref a :: us) (vs := .ref a :: vs) F hr hb hd hx I2 (.cons rfl r) q2
theorem pe_meth0G {pl : Sem Bool} (he : PE X o ta) (c : Cls X.K C) (hm : Meth X.K C m f) (F : FnG X.prog X.w X.K X.mg X.base k f fd ps sp) (hr : RoomG k X.A) (hb : Binds X.K fd ps ds) (hd : Vals dvs ds) (hx : PassG X E)
    (ht : eval (.Call (.Attribute o m apos) [] [] pos) X.env = (do
      let ov ← eval o X.env
      standAt apos.atName
      let (f, first) ← holding [ov] (getMethod ov m pl)
      callWith pos f first (backTo pos (starEach [] X.env)) (backToKw pos (keywordEach [] X.env))) := by rfl) :
    PE X (.Call (.Attribute o m apos) [] [] pos) (tMethG C m sp dvs E ta tNil) := by
  refine ⟨fun pins s σ H Q I h => ?_⟩
  refine PySem.W.methodCall_KW (pl := pl) (thn (he.run pins s σ H _ I h) fun u s1 ⟨x, H1, I1, rx, a, dx, fs, ex, ea, l, q⟩ => ?_) ht
  subst ex
  obtain rfl : u = Value.ref a := rx
  refine getmeth_ok I1 ea c hm l ?_
  exact PySem.W.callWith_K0 (first := [.ref a]) I1.kIn hm.kp (run_fnG (us := [.ref a]) (vs := [.ref a]) F hr hb hd hx I1 (.cons rfl .nil) q)
theorem run_makeG {pins : List (Addr × Obj)} {σ : St} {H : Hp} {s : Shared} {Q : VK} {us : List Value} {vs : List V} (M : Mk X.K C f) (F : FnG X.prog X.w X.K X.mg X.base k f fd ps sp) (hr : RoomG (k + 1) X.A) (hb : Binds X.K fd ps ds) (hd : Vals dvs ds)
    (hx : PassG X E) (I : Inv X pins σ H s) (r : Vals vs us)
    (h : ∀ x dx, H x = none → H dx = none → dx ≠ x → sp (.ref x :: (vs ++ dvs)) (upd (upd H dx (.own x)) x (.ins C dx [])) (fun v H2 => v = .non ∧ Q (.ref x) H2) (E σ)) :
    wpAny (model X.prog X.w) X.A (call (.ref C) us) (EP X pins σ Q) X.xe s := by
  have hq := h (s.heap.objs.size + 1) s.heap.objs.size (I.hok.fresh (Nat.le_succ _)) (I.hok.fresh (Nat.le_refl _)) (Nat.ne_of_lt (Nat.lt_succ_self _))
  have I2 := Inv.made (C := C) I
  have r2 : Vals (V.ref (s.heap.objs.size + 1) :: (vs ++ dvs)) (Value.ref (s.heap.objs.size + 1) :: (us ++ ds)) := .cons rfl (r.append hd)
  have hl : (Value.ref (s.heap.objs.size + 1) :: us ++ ds).length = ps.length := by
    have e := r2.length
    rw [F.len _ _ _ _ hq] at e
    exact e.symm
  refine wpAny_call (make_map (f := f) I.kIn M.makes M.init (beq_iff_eq.mp M.fn) (codeAny_mono (F.go _ X.stack _ _ ⟨Value.ref (s.heap.objs.size + 1) :: us, []⟩ (Value.ref (s.heap.objs.size + 1) :: (us ++ ds)) _ _ (E σ) (hr.make C us [])
    (I2.env0.make C us []) (hb _ (Value.ref (s.heap.objs.size + 1) :: us) I2.kIn hl) r2 hq) fun r s' hq' => ?_))
  match r, hq' with
  | .error e, hq' => exact hx σ pins _ _ e s' I2 hq'
  | .ok (.ret u), hq' =>
    obtain ⟨v, H', I3, rv, ev, q3⟩ := I2.after hq'
    subst ev
    exact ⟨rv, ⟨V.ref (s.heap.objs.size + 1), H', I3, rfl, q3⟩⟩
end

def getFD (f : Str) : List Str → List D → Option D
  | g :: gs, d :: ds => if f = g then some d else getFD f gs ds
  | _, _ => none
theorem getFD_rep {cm : Cm} {W : Addr → Prop} {H : Hp} {f : Str} : ∀ {fs : List Str} {vs : List V} {ds : List D}, Reps cm W H vs ds [] → ∀ {d : D}, getFD f fs ds = some d → ∃ v, (fs.zip vs).lookup f = some v ∧ Rep cm W H v d []
  | [], _, ds, _, d, h => by unfold getFD at h; cases h
  | g :: gs, _, [], _, d, h => by unfold getFD at h; cases h
  | g :: gs, vs, d0 :: ds, r, d, h => by
    generalize hf : ([] : List Addr) = fp at r
    cases r with
    | cons h0 r0 =>
      obtain ⟨rfl, rfl⟩ := app_nil hf
      unfold getFD at h
      rw [List.zip_cons_cons, List.lookup_cons]
      by_cases e : f = g
      · rw [if_pos e] at h
        cases h
        rw [beq_iff_eq.mpr e]
        exact ⟨_, rfl, h0⟩
      · rw [if_neg e] at h
        rw [beq_false_of_ne e]
        exact getFD_rep r0 h
def gFld (c f : Str) : D → Out D := fun d => match d with
  | .obj _ c' fs xs => if c' = c then ofO (getFD f fs xs) else .bad
  | _ => .bad
def isOb (c m : Str) : D → Bool
  | .obj _ c' fs _ => decide (c' = c) && fs.all fun g => decide (m ≠ g)
  | _ => false
theorem lookup_zip_none {m : Str} : ∀ {fs : List Str} {vs : List V}, (fs.all fun g => decide (m ≠ g)) = true → (fs.zip vs).lookup m = none
  | [], _, _ => rfl
  | g :: gs, [], _ => rfl
  | g :: gs, v :: vs, h => by
    rw [List.all_cons, Bool.and_eq_true, decide_eq_true_eq] at h
    rw [List.zip_cons_cons, List.lookup_cons, beq_false_of_ne h.1]
    exact lookup_zip_none h.2
theorem Rep.isOb {cm : Cm} {W : Addr → Prop} {H : Hp} {v : V} {d : D} {fp : List Addr} {c m : Str} (r : Rep cm W H v d fp) (h : isOb c m d = true) : cm.ok c ∧ ∃ p dx fs, v = .ref p ∧ H p = some (.ins (cm.cl c) dx fs) ∧ fs.lookup m = none := by
  cases r with
  | objO h1 l r =>
    unfold DL.isOb at h
    rw [Bool.and_eq_true, decide_eq_true_eq] at h
    obtain ⟨rfl, h⟩ := h
    exact ⟨l.2, _, _, _, rfl, h1, lookup_zip_none h⟩
  | objF h1 l n r =>
    unfold DL.isOb at h
    rw [Bool.and_eq_true, decide_eq_true_eq] at h
    obtain ⟨rfl, h⟩ := h
    exact ⟨l.2, _, _, _, rfl, h1, lookup_zip_none h⟩
  | _ => cases h
section
variable {X : Cx} {cm : Cm} {E : XS} {b : Bool} {pos p apos : Pos} {ks : Nat → Bool} {a c e o : Expr} {es : List Expr} {x : Str} {k n : Nat} {ps : List Str} {fa : F}
theorem de_fld {cl f : Str} (hk : X.K = cm.K) (hC : CmOk cm) (hn : NoAttr X.K (cm.cl cl) f) (ha : DE X cm E false a fa) (hb : attributeBase a f X.env (eval a X.env) = eval a X.env := by rfl) : DE X cm E b (.Attribute a f pos) (c1 (gFld cl f) fa) := by
  obtain ⟨ta, h1, h2⟩ := ha.ex
  refine ⟨_, pe_fld h1 hb, fun W H σ r w fr Q hp => h2 W H σ r w fr _ (hp.bind.mono (fun d q v H1 fp e1 r1 f1 => ?_) fun _ _ z => z)⟩
  cases (show fp = [] from f1)
  unfold gFld at q
  split at q
  · rename_i o' c' fs xs
    split at q
    · rename_i hc
      subst hc
      cases hg : getFD f fs xs with
      | none => rw [hg] at q; exact q.elim
      | some d' =>
        rw [hg] at q
        have key : ∀ {p dx : Addr} {vs : List V}, H1 p = some (.ins (cm.cl c') dx (fs.zip vs)) → cm.ok c' → Reps cm (Wp W []) H1 vs xs [] → ∃ a C dx fs' v', V.ref p = .ref a ∧ H1 a = some (.ins C dx fs') ∧ Cls X.K C ∧ NoAttr X.K C f ∧ fs'.lookup f = some v' ∧ Q v' H1 := by
          intro p dx vs hp hok hr
          obtain ⟨v', l1, l2⟩ := getFD_rep hr hg
          exact ⟨p, _, dx, _, v', rfl, hp, by rw [hk]; exact (hC _ hok).cl, hn, l1, q v' H1 [] e1 l2 FpN.nil⟩
        generalize hf : ([] : List Addr) = fp at r1
        cases r1 with
        | objO h l r => cases hf
        | objF h l nw r => exact key h l.2 r
    · exact q.elim
  · exact q.elim

structure MethOk (P : Program) (w : World) (K : PySem.W.Frag) (mg : Str → Option Value) (base : Heap) (cm : Cm) (c m : Str) (k : Nat) (ps : List Str) (dd : List D) (sp : Sp) : Prop where
  ex : ∃ f fd dvs ds, FnG P w K mg base k f fd ps sp ∧ Meth K (cm.cl c) m f ∧ Binds K fd ps ds ∧ Vals dvs ds ∧ ∀ W H, Reps cm W H dvs dd []
def cMt (c m : Str) (n : Nat) (mm : List D → Out D) (dd : List D) (fo : F) (fs : Env → Out (List D)) : F := fun r => (fo r).bind fun d => if isOb c m d = true then (fs r).bind fun ds => chk n mm (d :: (ds ++ dd)) else .bad
theorem meth_con {cl m : Str} {mm : List D → Out D} {dd : List D} {dvs : List V} {to : TE} {ta : TA} {fo : F} {fs : Env → Out (List D)} (hdd : ∀ W H, Reps cm W H dvs dd []) (h2 : ECon cm E false to fo) (h4 : ACon cm E false ta fs) : ECon cm E true (tMethG (cm.cl cl) m (spP cm n mm) dvs E to ta) (cMt cl m n mm dd fo fs) := by
  intro W H σ r w fr Q hp
  refine h2 W H σ r w fr _ (hp.bind.mono (fun d q v H1 fp e1 r1 f1 => ?_) fun _ _ z => z)
  cases (show fp = [] from f1)
  split at q
  · rename_i hob
    obtain ⟨_, p, dx, fs', rfl, hp1, hl⟩ := r1.isOb hob
    refine ⟨p, dx, fs', rfl, hp1, hl, h4 W H1 σ r (w.ex e1) (fr.ex e1) _ (q.bind.mono (fun ds q2 vs H2 fp2 e2 r2 f2 => ?_) fun _ _ z => XPost.ex e1 z)⟩
    cases (show fp2 = [] from f2)
    unfold chk at q2
    split at q2
    · rename_i hlen
      exact ⟨W, d :: (ds ++ dd), (w.ex e1).ex e2, .cons (fp := []) (r1.ofP.ex e2) (Reps.app r2.ofP (hdd W H2)), hlen, q2.mono (fun d' q3 z H3 fp3 e3 r3 f3 => q3 z H3 fp3 (e1.trans (e2.trans e3)) r3 ((f3.ex e2).ex e1)) fun x rr z => XPost.ex e2 (XPost.ex e1 z)⟩
    · exact q2.elim
  · exact q.elim
theorem acon_nil : ACon cm E false tNil aNil := by
  exact fun W H σ r w fr Q hp => hp [] H [] (Ex.refl H) .nil FpN.nil
theorem de_meth0 {cl m : Str} {mm : List D → Out D} {dd : List D} {fo : F} {pl : Sem Bool} (hk : X.K = cm.K) (hC : CmOk cm) (hok : cm.ok cl) (M : MethOk X.prog X.w X.K X.mg X.base cm cl m k ps dd (spP cm n mm)) (hr : RoomG k X.A) (hx : PassG X E) (ho : DE X cm E false o fo)
    (ht : eval (.Call (.Attribute o m apos) [] [] pos) X.env = (do
      let ov ← eval o X.env
      standAt apos.atName
      let (f, first) ← holding [ov] (getMethod ov m pl)
      callWith pos f first (backTo pos (starEach [] X.env)) (backToKw pos (keywordEach [] X.env))) := by rfl) : DE X cm E true (.Call (.Attribute o m apos) [] [] pos) (cMt cl m n mm dd fo aNil) := by
  obtain ⟨to, h1, h2⟩ := ho.ex
  obtain ⟨f, fd, dvs, ds, F, Mt, hb, hv, hdd⟩ := M.ex
  exact ⟨_, pe_meth0G h1 (by rw [hk]; exact (hC _ hok).cl) Mt F hr hb hv hx ht, meth_con hdd h2 acon_nil⟩

def mkO (c : Str) (n : Nat) (mm : List D → Out (D × D)) (dd ds : List D) : Out D := if (ds ++ dd).length + 1 = n then (match mm (.obj true c [] [] :: (ds ++ dd)) with
  | .ok (.non, d) => .ok d
  | .exn x _ => .exn x []
  | _ => .bad) else .bad
structure MakeOk (P : Program) (w : World) (K : PySem.W.Frag) (mg : Str → Option Value) (base : Heap) (cm : Cm) (c : Str) (k : Nat) (ps : List Str) (dd : List D) (sp : Sp) : Prop where
  ex : ∃ f fd dvs ds, FnG P w K mg base k f fd ps sp ∧ Mk K (cm.cl c) f ∧ mg c = some (.ref (cm.cl c)) ∧ Binds K fd ps ds ∧ Vals dvs ds ∧ ∀ W H, Reps cm W H dvs dd []
theorem make_run {cl : Str} {mm : List D → Out (D × D)} {dd ds : List D} {dvs vs : List V} {W : Addr → Prop} {H : Hp} {Q : VK} {E : XK} (hok : cm.ok cl) (hdd : ∀ W H, Reps cm W H dvs dd []) (w : WOk cm W H) (rp : Reps cm W H vs ds []) (hp : Post (mkO cl n mm dd ds) (QP cm W true H Q) (XPost cm E W H)) :
    ∀ x dx, H x = none → H dx = none → dx ≠ x → spX cm n mm (.ref x :: (vs ++ dvs)) (upd (upd H dx (.own x)) x (.ins (cm.cl cl) dx [])) (fun v H2 => v = .non ∧ Q (.ref x) H2) E := by
  intro x dx hx hdx hne
  have e1 : Ex H (upd (upd H dx (.own x)) x (.ins (cm.cl cl) dx [])) := (Ex.new hdx).trans (Ex.new (by rw [upd_ne (Ne.symm hne)]; exact hx))
  have hnW : ¬ W x := w.fresh hx
  unfold mkO at hp
  split at hp
  · rename_i hl
    refine ⟨W, .ref x, .obj true cl [] [], [x], vs ++ dvs, ds ++ dd, rfl, ⟨fun a z => ?_, e1.tb w.2⟩, List.nodup_cons.mpr ⟨List.not_mem_nil, List.nodup_nil⟩, fun a m => ?_, .objO (vs := []) (fp := []) upd_same ⟨rfl, hok⟩ .nil, Reps.app (fp := []) (rp.move (fun a z => ?_) fun a o q t _ => e1.get a o q t) (hdd _ _), hl, ?_⟩
    · rcases z with z | z
      · exact (w.1 a z).ex e1
      · rw [List.mem_singleton.mp z]; exact ⟨_, upd_same, rfl⟩
    · rw [List.mem_singleton.mp m]; exact hnW
    · rcases z with z | z
      · exact .inl z
      · rw [List.mem_singleton.mp z]; exact .inr hx
    · have hex : ∀ {H' : Hp} {fp' fpv : List Addr}, Fram (upd (upd H dx (.own x)) x (.ins (cm.cl cl) dx [])) (fps0 [x]) H' (fps0 fp') fpv → Ex H H' := fun fm => ⟨fun a o q t => fm.keep a o (e1.get a o q t) (t := t) (fun i m => by
        by_cases hi : i = 0
        · subst hi
          rw [List.mem_singleton.mp (show a ∈ [x] from m)] at q
          rw [q] at hx; cases hx
        · rw [show fps0 [x] i = [] from if_neg hi] at m; cases m), fun a q => e1.back (fm.back a q), fun h => fm.tb (e1.tb h)⟩
      split at hp
      · rename_i d hd
        rw [hd]
        intro v H' fp' fpv r0 rv nd nw fm
        cases rv
        refine ⟨rfl, hp (.ref x) H' fp' (hex fm) (by rw [List.append_nil] at r0; exact r0) ⟨by rw [List.append_nil] at nd; exact nd, fun a m => ?_⟩⟩
        rcases fm.old 0 a m with ⟨j, m⟩ | z
        · by_cases hj : j = 0
          · subst hj; rw [List.mem_singleton.mp (show a ∈ [x] from m)]; exact hx
          · rw [show fps0 [x] j = [] from if_neg hj] at m; cases m
        · exact e1.back z
      · rename_i y r' hd
        rw [hd]
        exact fun d1 H' fp' dx' _ _ _ _ fm xr => hp H' dx' (hex fm) (xr.weak fun a z => .inl z)
      · exact hp.elim
  · exact hp.elim
end
end DL

namespace DL
variable [Tbs]
open PySem L2
section
variable {X : Cx} {cm : Cm} {E : XS} {b : Bool} {pos p apos : Pos} {ks : Nat → Bool} {a c e o : Expr} {es : List Expr} {x : Str} {k n : Nat} {ps : List Str} {fa : F}
def xMt (c m : Str) (n : Nat) (mm : List D → Out D) (dd : List D) (f : FX) (h : Env → Out (List D × Env)) : FX := fun r => (f r).bind fun p => if isOb c m p.1 = true then (h p.2).bind fun q => (match chk n mm (frz p.1 :: (frzs q.1 ++ dd)) with
  | .ok d => .ok (d, q.2)
  | .exn x _ => .exn x q.2
  | .bad => .bad) else .bad
theorem Rep.isObF {W : Addr → Prop} {H : Hp} {v : V} {d : D} {fp : List Addr} {c m : Str} (r : Rep cm W H v d fp) (h : DL.isOb c m d = true) : ∃ p dx fs, v = .ref p ∧ H p = some (.ins (cm.cl c) dx fs) ∧ fs.lookup m = none := (r.isOb h).2
theorem Good.mutO {W0 : Addr → Prop} {H : Hp} {σ : St} {r : Env} {fps : Fps} {i : Nat} {pa : Addr} {vs' : List V} {ds' : List D} {d' : D} {o : HO} {fp' fpv : List Addr} (g : Good cm (Wp W0 fpv) H σ r fps) (hv : σ[i]? = some (some (.ref pa))) (ho : isM o = true) (hmk : ∀ W' H', H' pa = some o → Reps cm W' H' vs' ds' fp' → Rep cm W' H' (.ref pa) d' (pa :: fp')) (hpa : pa ∈ fps i) (hrp : Reps cm (Wof (Wp W0 fpv) fps) H vs' ds' fp') (hsub : ∀ a ∈ fp', a ∈ fps i ∨ a ∈ fpv) (hnp : pa ∉ fp') (nd : fp'.Nodup) (nw : ∀ a ∈ fpv, ¬ W0 a) :
    Good cm W0 (upd H pa o) σ (r.set i (some d')) (fun j => if j = i then pa :: fp' else fps j) := by
  have sub : ∀ {j a}, a ∈ (if j = i then pa :: fp' else fps j) → (j = i ∧ (a = pa ∨ a ∈ fp')) ∨ (j ≠ i ∧ a ∈ fps j) := fun {j a} m => by
    split at m
    · exact .inl ⟨by assumption, List.mem_cons.mp m⟩
    · exact .inr ⟨by assumption, m⟩
  have own : ∀ {j a}, a ∈ (if j = i then pa :: fp' else fps j) → Wof (Wp W0 fpv) fps a := fun {j a} m => by
    rcases sub m with ⟨_, rfl | m⟩ | ⟨_, m⟩
    · exact .inr ⟨i, hpa⟩
    · exact (hsub a m).elim (fun m => .inr ⟨i, m⟩) fun m => .inl (.inr m)
    · exact .inr ⟨j, m⟩
  have wsub : ∀ a, Wof W0 (fun j => if j = i then pa :: fp' else fps j) a → Wof (Wp W0 fpv) fps a := fun a z => by
    rcases z with z | ⟨j, m⟩
    · exact .inl (.inl z)
    · exact own m
  have mut' : ∀ a, MutAt H a → MutAt (upd H pa o) a := fun a ⟨o', h1, h2⟩ => by
    by_cases e : a = pa
    · subst e; exact ⟨_, upd_same, ho⟩
    · exact ⟨o', by rw [upd_ne e]; exact h1, h2⟩
  have nother : ∀ j a, j ≠ i → a ∈ fps j → a ≠ pa ∧ a ∉ fp' := fun j a hj m => ⟨fun z => hj (g.dj j i a m (z ▸ hpa)), fun z => (hsub a z).elim (fun z => hj (g.dj j i a m z)) fun z => g.nw j a m (.inr z)⟩
  refine ⟨by rw [List.length_set]; exact g.len, ⟨fun a z => mut' a (g.w0.1 a (.inl z)), Tabs.updM g.w0.2 (g.mu i pa hpa)⟩, fun j d hj => ?_, fun j => ?_, fun j j' a m m' => ?_, fun j a m z => ?_, fun j a m => ?_⟩
  · rw [List.getElem?_set] at hj
    by_cases e : i = j
    · subst e
      rw [if_pos rfl] at hj
      split at hj
      · cases hj
        rw [if_pos rfl]
        refine ⟨_, hv, hmk _ _ upd_same (hrp.move (fun a z => .inl (wsub a z)) fun a o q _ cc => ?_)⟩
        rw [upd_ne]
        · exact q
        · rcases cc with cc | cc
          · exact fun z => cc (.inr ⟨i, z ▸ hpa⟩)
          · exact fun z => hnp (z ▸ cc)
      · cases hj
    · rw [if_neg e] at hj
      rw [if_neg (Ne.symm e)]
      obtain ⟨u, e1, e2⟩ := g.sl j d hj
      refine ⟨u, e1, e2.move (fun a z => .inl (wsub a z)) fun a o q _ cc => ?_⟩
      rw [upd_ne]
      · exact q
      · rcases cc with cc | cc
        · exact fun z => cc (.inr ⟨i, z ▸ hpa⟩)
        · exact (nother j a (Ne.symm e) cc).1
  · split
    · exact List.nodup_cons.mpr ⟨hnp, nd⟩
    · exact g.nd j
  · rcases sub m with ⟨e, m⟩ | ⟨e, m⟩ <;> rcases sub m' with ⟨e', m'⟩ | ⟨e', m'⟩
    · rw [e, e']
    · rcases m with m | m
      · exact absurd m (nother j' a e' m').1
      · exact absurd m (nother j' a e' m').2
    · rcases m' with m' | m'
      · exact absurd m' (nother j a e m).1
      · exact absurd m' (nother j a e m).2
    · exact g.dj j j' a m m'
  · rcases sub m with ⟨_, rfl | m⟩ | ⟨_, m⟩
    · exact g.nw i _ hpa (.inl z)
    · exact (hsub a m).elim (fun m => g.nw i a m (.inl z)) fun m => nw a m z
    · exact g.nw j a m (.inl z)
  · exact mut' a (g.wof.1 a (own m))
def putN (f : Str) : List Str → List Str
  | [] => [f]
  | g :: gs => if g = f then g :: gs else g :: putN f gs
def putX {α : Type} (f : Str) (x : α) : List Str → List α → List α
  | [], _ => [x]
  | _ :: _, [] => []
  | g :: gs, y :: ys => if g = f then x :: ys else y :: putX f x gs ys
theorem putF_zip (f : Str) (v : V) : ∀ (fs : List Str) (vs : List V), fs.length = vs.length → putF f v (fs.zip vs) = (putN f fs).zip (putX f v fs vs) ∧ (putN f fs).length = (putX f v fs vs).length
  | [], vs, h => ⟨rfl, rfl⟩
  | g :: gs, [], h => nomatch h
  | g :: gs, u :: us, h => by
    obtain ⟨h1, h2⟩ := putF_zip f v gs us (by simpa using h)
    rw [List.zip_cons_cons]
    show (if g = f then (g, v) :: gs.zip us else (g, u) :: putF f v (gs.zip us)) = _ ∧ _
    unfold putN putX
    by_cases e : g = f
    · rw [if_pos e, if_pos e, if_pos e]; exact ⟨rfl, by simpa using h⟩
    · rw [if_neg e, if_neg e, if_neg e, h1]; exact ⟨rfl, by simp [h2]⟩
theorem Reps.putX {W : Addr → Prop} {H : Hp} {f : Str} {v : V} {d : D} {fv : List Addr} (rv : Rep cm W H v d fv) : ∀ {fs : List Str} {vs : List V} {ds : List D} {fp : List Addr}, Reps cm W H vs ds fp → fs.length = vs.length → ∃ fp', Reps cm W H (DL.putX f v fs vs) (DL.putX f d fs ds) fp' ∧ (∀ a ∈ fp', a ∈ fp ∨ a ∈ fv) ∧ (fp.Nodup → fv.Nodup → (∀ a ∈ fp, a ∉ fv) → fp'.Nodup)
  | [], _, _, _, .nil, _ => ⟨fv ++ [], .cons rv .nil, fun a m => .inr (by simpa using m), fun _ h _ => by simpa using h⟩
  | [], _, _, _, .cons _ _, h => nomatch h
  | _ :: _, _, _, _, .nil, h => nomatch h
  | g :: gs, _, _, _, .cons (fp := f1) (fps := f2) h0 r0, h => by
    unfold DL.putX
    by_cases e : g = f
    · rw [if_pos e, if_pos e]
      refine ⟨fv ++ f2, .cons rv r0, fun a m => (List.mem_append.mp m).elim .inr fun m => .inl (List.mem_append_right _ m), fun h1 h2 h3 => List.nodup_append.mpr ⟨h2, (List.nodup_append.mp h1).2.1, fun a m b m' z => h3 b (List.mem_append_right _ m') (z ▸ m)⟩⟩
    · rw [if_neg e, if_neg e]
      obtain ⟨fp', h1, h2, h3⟩ := Reps.putX rv r0 (fs := gs) (by simpa using h)
      refine ⟨f1 ++ fp', .cons h0 h1, fun a m => (List.mem_append.mp m).elim (fun m => .inl (List.mem_append_left _ m)) fun m => (h2 a m).imp (List.mem_append_right _) id, fun k1 k2 k3 => ?_⟩
      have k4 := List.nodup_append.mp k1
      refine List.nodup_append.mpr ⟨k4.1, h3 k4.2.1 k2 fun a m => k3 a (List.mem_append_right _ m), fun a m b m' z => ?_⟩
      subst z
      rcases h2 a m' with m' | m'
      · exact k4.2.2 a m a m' rfl
      · exact k3 a (List.mem_append_left _ m) m'
def sFldS (i : Nat) (c f : Str) (fx : FX) : FS := fun r => match fx r with
  | .ok p => match p.2[i]? with
    | some (some (.obj true c' fs xs)) => if c' = c ∧ fs.length < 1000 then .nx (p.2.set i (some (.obj true c' (putN f fs) (putX f p.1 fs xs)))) else .bad
    | _ => .bad
  | .exn x r' => .exn x r'
  | .bad => .bad
theorem Rep.objOf {W : Addr → Prop} {H : Hp} {v : V} {c : Str} {fs : List Str} {ds : List D} {fp : List Addr} (h : Rep cm W H v (.obj true c fs ds) fp) : cm.ok c ∧ ∃ pa dx vs fp', v = .ref pa ∧ H pa = some (.ins (cm.cl c) dx (fs.zip vs)) ∧ fs.length = vs.length ∧ fp = pa :: fp' ∧ Reps cm W H vs ds fp' := by
  cases h with
  | objO h l r => exact ⟨l.2, _, _, _, _, rfl, h, l.1, rfl, r⟩
theorem ds_fld (i : Nat) {cl f : Str} {fx : FX} {tpos : Pos} (hk : X.K = cm.K) (hC : CmOk cm) (hn : NoAttr X.K (cm.cl cl) f) (hv : PE X o (tVar i)) (h1 : XE X cm E e fx) (hs : swapsWith e (some (.Attribute o f tpos)) pos.line X.env = pure false := by rfl) : DS X cm E ks (.Assign [.Attribute o f tpos] e pos) (sFldS i cl f fx) := by
  obtain ⟨te, a1, a2⟩ := h1.ex
  refine ⟨_, ps_fld hv a1 hs, fun W0 H σ r fps gd D hp => a2 W0 H σ r fps gd _ ?_⟩
  unfold sFldS at hp
  split at hp
  · rename_i pp hr
    rw [hr]
    intro v H1 f1 p1 g1 k1 n1 w1 m1
    split at hp
    · rename_i c' fs xs hd
      split at hp
      · rename_i hc
        obtain ⟨hcc, hfl⟩ := hc
        subst hcc
        obtain ⟨v0, q1, q2⟩ := g1.sl i _ hd
        obtain ⟨hok, pa, dx, vs, fp, rfl, hpa, hlen, hfp, hrr⟩ := q2.objOf
        refine ⟨_, q1, pa, _, dx, _, rfl, hpa, by rw [hk]; exact (hC _ hok).cl, hn, by rw [List.length_zip, hlen, Nat.min_self, ← hlen]; exact hfl, ?_⟩
        obtain ⟨e1, e2⟩ := putF_zip f v fs vs hlen
        rw [e1]
        obtain ⟨fp', s1, s2, s3⟩ := Reps.putX (f := f) k1 hrr hlen
        have hmem : pa ∈ f1 i := by rw [hfp]; exact List.mem_cons_self ..
        have nd1 := g1.nd i
        rw [hfp] at nd1
        have nd2 := List.nodup_cons.mp nd1
        have hdj : ∀ a ∈ fp, a ∉ p1 := fun a m z => g1.nw i a (by rw [hfp]; exact List.mem_cons_of_mem _ m) (.inr z)
        have hsub : ∀ a ∈ fp', a ∈ f1 i ∨ a ∈ p1 := fun a m => (s2 a m).imp (fun m => by rw [hfp]; exact List.mem_cons_of_mem _ m) id
        have hnp : pa ∉ fp' := fun m => (s2 pa m).elim nd2.1 fun m => g1.nw i pa hmem (.inr m)
        have g3 := g1.mutO (d' := .obj true c' (putN f fs) (putX f pp.1 fs xs)) (o := .ins (cm.cl c') dx ((putN f fs).zip (putX f v fs vs))) q1 rfl (fun W' H' h r => .objO h ⟨e2, hok⟩ r) hmem s1 hsub hnp (s3 nd2.2 n1 hdj) w1
        exact hp σ _ _ g3 (m1.mut hmem ⟨_, hpa, rfl⟩ hsub) (Keep.refl ks σ)
      · exact hp.elim
    · exact hp.elim
  · rename_i x r' hr
    rw [hr]
    exact fun H1 fps' dx g1 fm xr => hp σ H1 fps' dx g1 fm (Keep.refl ks σ) xr
  · exact hp.elim
def xMIO (i : Nat) (c m : Str) (n : Nat) (mm : List D → Out (D × D)) (h : Env → Out (List D × Env)) : FX := fun r => match r[i]? with
  | some (some d) => if isOb c m d = true then xIO i n mm h r else .bad
  | _ => .bad
theorem xe_mio (i : Nat) {cl m : Str} {mm : List D → Out (D × D)} {fs : Env → Out (List D × Env)} {pl : Sem Bool} (hk : X.K = cm.K) (hC : CmOk cm) (hok : cm.ok cl) (M : MethOk X.prog X.w X.K X.mg X.base cm cl m k ps [] (spX cm n mm)) (hr : RoomG k X.A) (hx : PassG X E) (hv : PE X o (tVar i)) (ha : XA X cm E (e :: es) fs)
    (hst : starEach (e :: es) X.env = (false, eval e X.env) :: starEach es X.env := by rfl) (hpl : (backTo pos (starEach es X.env)).any (·.1) = false := by rfl)
    (ht : eval (.Call (.Attribute o m apos) (e :: es) [] pos) X.env = (do
      let ov ← eval o X.env
      standAt apos.atName
      let (f, first) ← holding [ov] (getMethod ov m pl)
      callWith pos f first (backTo pos (starEach (e :: es) X.env)) (backToKw pos (keywordEach [] X.env))) := by rfl) : XE X cm E (.Call (.Attribute o m apos) (e :: es) [] pos) (xMIO i cl m n mm fs) := by
  obtain ⟨ta, h1, h2⟩ := ha.ex
  obtain ⟨f, fd, dvs, ds, F, Mt, hb, hvl, hdd⟩ := M.ex
  refine ⟨_, pe_methG hv (by rw [hk]; exact (hC _ hok).cl) Mt F hr hb hvl hx h1 hst hpl ht, fun W0 H σ r fps g Q hp => ?_⟩
  unfold xMIO at hp
  split at hp
  · rename_i d hd
    split at hp
    · rename_i hob
      obtain ⟨v0, q1, q2⟩ := io_con h2 W0 H σ r fps g Q hp
      obtain ⟨v1, e1, e2⟩ := g.sl i d hd
      rw [q1] at e1
      cases e1
      obtain ⟨pa, dx, fs', rfl, hpa, hl⟩ := e2.isObF hob
      refine ⟨_, q1, pa, dx, fs', rfl, hpa, hl, ?_⟩
      have hn : dvs = [] := by
        have := (hdd (fun _ => False) (fun _ => none)).len
        exact List.length_eq_zero_iff.mp this
      subst hn
      simp only [List.append_nil]
      exact q2
    · exact hp.elim
  · exact hp.elim
end
end DL

namespace DL
variable [Tbs]
open PySem L2
theorem RoomG.in1 {k : Nat} {A : Around} (r : RoomG (k + 1) A) : RoomG k A.in1 := ⟨r.rm.in1, r.gd⟩
structure SpecOk (P : Program) (w : World) (K : PySem.W.Frag) (mg : Str → Option Value) (base : Heap) (cm : Cm) (c m : Str) (k : Nat) (ps : List Str) (sp : Sp) : Prop where
  ex : ∃ f fd, FnG P w K mg base k f fd ps sp ∧ Meth K (cm.cl c) m f ∧ Binds K fd ps []
section
variable {X : Cx} {cm : Cm} {E : XS} {b : Bool} {pos p : Pos} {k n : Nat} {c m : Str} {ps : List Str} {mm : List D → Out D} {a d e : Expr} {fa fb : F}
theorem ne_plain : plainId "object.__ne__" = true := by decide +kernel
end
end DL

namespace DL
variable [Tbs]
open PySem L2
open PyProof.Rows (envOfC)
section
variable {P : Program} {w : World} {K : PySem.W.Frag} {mg : Str → Option Value} {base : Heap} {cm : Cm} {c m x : Str} {k : Nat} {f : Addr} {fd : FuncData} {ps : List Str} {sp : Sp} {dvs : List V} {dd : List D}
theorem mk_meth (F : FnG P w K mg base k f fd ps sp) (M : Meth K (cm.cl c) m f) (hb : Binds K fd ps []) : MethOk P w K mg base cm c m k ps [] sp := ⟨f, fd, [], [], F, M, hb, .nil, fun _ _ => .nil⟩
theorem mk_make (F : FnG P w K mg base k f fd ps sp) (M : Mk K (cm.cl c) f) (hm : mg c = some (.ref (cm.cl c))) (hb : Binds K fd ps []) : MakeOk P w K mg base cm c k ps [] sp := ⟨f, fd, [], [], F, M, hm, hb, .nil, fun _ _ => .nil⟩
theorem CallOk.mono {j : Nat} (C : CallOk P w K mg base x j ps sp) (h : j ≤ k) : CallOk P w K mg base x k ps sp := by
  obtain ⟨f, fd, h1, h2, h3, h4⟩ := C.ex
  exact ⟨f, fd, h1.mono h, h2, h3, h4⟩
end
section
variable {X : Cx} {cm : Cm} {E : XS} {b : Bool} {pos p apos : Pos} {ks : Nat → Bool} {a c e o : Expr} {es : List Expr} {x : Str} {k n : Nat} {fa fb : F}
open PySem.StrLaws in
theorem count_go (cs : List Nat) (c : Nat) : ∀ (m k : Nat) (st : Array Nat × Nat), k + m = cs.length + 1 → st.snd ≤ k → st.fst.size ≤ k → ((forIn (List.range' k m) st (occBody ⟨cs.toArray⟩ ⟨#[c]⟩ cs.length (cs.length + 1))).run.fst).size = st.fst.size + (cs.drop k).count c
  | 0, k, st, h, _, _ => by
    have : cs.drop k = [] := List.drop_eq_nil_of_le (by omega)
    rw [this]
    rfl
  | m + 1, k, st, h, h1, h2 => by
    have h1c : (⟨#[c]⟩ : Str).length = 1 := rfl
    have hso := subAt_one ⟨cs.toArray⟩ c k
    have hsl : (⟨cs.toArray⟩ : Str).length = cs.length := by simp [Str.length]
    by_cases hk : k < cs.length
    · rw [List.drop_eq_getElem_cons hk]
      by_cases hc : cs[k] = c
      · have hb : occBody ⟨cs.toArray⟩ ⟨#[c]⟩ cs.length (cs.length + 1) k st = pure (ForInStep.yield (st.fst.push k, k + 1)) := by
          unfold occBody
          rw [if_pos]
          · rfl
          · exact ⟨⟨⟨by omega, h1⟩, by rw [h1c]; omega⟩, (hso.mpr (by simp [hk, hc])).2⟩
        rw [List.range'_succ, List.forIn_cons, hb]
        show ((forIn (List.range' (k + 1) m) (st.fst.push k, k + 1) (occBody ⟨cs.toArray⟩ ⟨#[c]⟩ cs.length (cs.length + 1))).run.fst).size = _
        rw [count_go cs c m (k + 1) _ (by omega) (by show k + 1 ≤ k + 1; omega) (by simp; omega), List.count_cons]
        simp [hc]
        omega
      · have hb : occBody ⟨cs.toArray⟩ ⟨#[c]⟩ cs.length (cs.length + 1) k st = pure (ForInStep.yield (st.fst, st.snd)) := by
          unfold occBody
          rw [if_neg]
          rintro ⟨_, z⟩
          have := hso.mp ⟨by rw [h1c, hsl]; omega, z⟩
          simp [hk] at this
          exact hc this
        rw [List.range'_succ, List.forIn_cons, hb]
        show ((forIn (List.range' (k + 1) m) (st.fst, st.snd) (occBody ⟨cs.toArray⟩ ⟨#[c]⟩ cs.length (cs.length + 1))).run.fst).size = _
        rw [count_go cs c m (k + 1) _ (by omega) (by show st.snd ≤ k + 1; omega) (by show st.fst.size ≤ k + 1; omega), List.count_cons]
        simp [hc]
    · have : cs.drop k = [] := List.drop_eq_nil_of_le (by omega)
      rw [this]
      have hb : occBody ⟨cs.toArray⟩ ⟨#[c]⟩ cs.length (cs.length + 1) k st = pure (ForInStep.yield (st.fst, st.snd)) := by
        unfold occBody
        rw [if_neg]
        rintro ⟨⟨_, z⟩, _⟩
        rw [h1c] at z
        omega
      rw [List.range'_succ, List.forIn_cons, hb]
      show ((forIn (List.range' (k + 1) m) (st.fst, st.snd) (occBody ⟨cs.toArray⟩ ⟨#[c]⟩ cs.length (cs.length + 1))).run.fst).size = _
      rw [count_go cs c m (k + 1) _ (by omega) (by show st.snd ≤ k + 1; omega) (by show st.fst.size ≤ k + 1; omega)]
      rw [List.drop_eq_nil_of_le (by omega)]
def gCnt : D → D → Out D := fun s l => match s, l with
  | .str cs, .str [c] => .ok (.int (cs.count c : Nat))
  | _, _ => .bad
def gLenR : D → Out D
  | .int j => if 0 ≤ j ∧ j.toNat ≤ 1000000 then .ok (.int j) else .bad
  | _ => .bad
def sL (n : Nat) (g : List D → Env → Out Env) : D → Env → Out Env := fun d r => match d with
  | .lst _ ds => if ds.length = n then g ds r else .bad
  | _ => .bad
end
end DL

namespace DL
variable [Tbs]
open PySem L2
structure NB (K : PySem.W.Frag) (C : Addr) : Prop where
  n1 : PySem.W.kitOne K (.type "NoneType") (.ref C) = some false
  n2 : PySem.W.kitOne K (.type "bool") (.ref C) = some false
  n3 : PySem.W.kitOne K (.type "int") (.ref C) = some false
  n4 : PySem.W.kitOne K (.type "str") (.ref C) = some false
  n5 : PySem.W.kitOne K (.type "list") (.ref C) = some false
  n6 : PySem.W.kitOne K (.type "tuple") (.ref C) = some false
  n7 : PySem.W.kitOne K (.type "dict") (.ref C) = some false
section
variable {X : Cx} {cm : Cm} {E : XS} {b : Bool} {pos : Pos} {a c : Expr} {fa fb : F}
end
end DL
namespace DL
variable [Tbs]
open PySem L2
def okT (l : List Str) (c : Str) : Prop := c ∈ l
theorem okT_mem {l : List Str} {c : Str} (h : l.contains c = true) : okT l c := by simpa [okT] using h
theorem okT_nil {P : Str → Prop} : ∀ c, okT [] c → P c := fun _ h => nomatch h
theorem okT_cons {P : Str → Prop} {a : Str} {l : List Str} (h : P a) (t : ∀ c, okT l c → P c) : ∀ c, okT (a :: l) c → P c := fun c m => by
  rcases List.mem_cons.mp m with rfl | m
  · exact h
  · exact t c m
theorem ob_mk {K : PySem.W.Frag} {C : Addr} (cl : Cls K C) (ha : PySem.W.findIn K (.ref C) "__class__" = some (some (.builtin "object.__class__"))) (hn : PySem.W.specialIn K (.builtin "object.__class__") "__get__" = some (some (.builtin "getset_descriptor.__get__"))) (htk : PySem.W.takesIn K (.builtin "object.__class__") = some true) (hm : PySem.W.mroIn K C (.type "object") = some true)
    (h1 : PySem.W.kitOne K (.ref C) (.type "int") = some false) (h2 : PySem.W.kitOne K (.ref C) (.type "bool") = some false) (h3 : PySem.W.kitOne K (.ref C) (.type "str") = some false) (h4 : PySem.W.kitOne K (.ref C) (.type "list") = some false) (h5 : PySem.W.kitOne K (.ref C) (.type "tuple") = some false) (h6 : PySem.W.kitOne K (.ref C) (.type "dict") = some false) : ObC K C :=
  ⟨cl, ha, hn, htk, hm, fun t => by cases t <;> assumption⟩
end DL

namespace DL
variable [Tbs]
open PySem L2
inductive Step where
  | ix (j : Nat) | fld (f : Str) | key (k : List Key)
def getKD (k : List Key) : List (List Key) → List D → Option D
  | g :: gs, d :: ds => if g = k then some d else getKD k gs ds
  | _, _ => none
def setKD (k : List Key) (x : D) : List (List Key) → List D → List D
  | g :: gs, d :: ds => if g = k then x :: ds else d :: setKD k x gs ds
  | _, ds => ds
def setFD (f : Str) (x : D) : List Str → List D → List D
  | g :: gs, d :: ds => if f = g then x :: ds else d :: setFD f x gs ds
  | _, ds => ds
def getP : List Step → D → Option D
  | [], d => some d
  | .ix j :: π, .lst true ds => (ds[j]?).bind (getP π)
  | .ix j :: π, .tup ds => (ds[j]?).bind (getP π)
  | .fld f :: π, .obj true _ fs ds => (getFD f fs ds).bind (getP π)
  | .key k :: π, .dT true ks ds => (getKD k ks ds).bind (getP π)
  | _, _ => none
def setP : List Step → D → D → D
  | [], e, _ => e
  | .ix j :: π, e, .lst true ds => .lst true (ds.set j (match ds[j]? with | some x => setP π e x | none => e))
  | .ix j :: π, e, .tup ds => .tup (ds.set j (match ds[j]? with | some x => setP π e x | none => e))
  | .fld f :: π, e, .obj true c fs ds => .obj true c fs (setFD f (match getFD f fs ds with | some x => setP π e x | none => e) fs ds)
  | .key k :: π, e, .dT true ks ds => .dT true ks (setKD k (match getKD k ks ds with | some x => setP π e x | none => e) ks ds)
  | _, _, d => d
inductive ValP (H : Hp) : List Step → V → V → Prop
  | nil {v : V} : ValP H [] v v
  | ixL {p : Addr} {vs : List V} {j : Nat} {u w : V} {π : List Step} : H p = some (.lst vs) → vs[j]? = some u → ValP H π u w → ValP H (.ix j :: π) (.ref p) w
  | ixT {p : Addr} {vs : List V} {j : Nat} {u w : V} {π : List Step} : H p = some (.tup vs) → vs[j]? = some u → ValP H π u w → ValP H (.ix j :: π) (.ref p) w
  | fld {p C dx : Addr} {fvs : List (Str × V)} {f : Str} {u w : V} {π : List Step} : H p = some (.ins C dx fvs) → fvs.lookup f = some u → ValP H π u w → ValP H (.fld f :: π) (.ref p) w
  | key {p : Addr} {kvs : List (List Key × V)} {k : List Key} {u w : V} {π : List Step} : H p = some (.dT kvs) → valV kvs k = some u → ValP H π u w → ValP H (.key k :: π) (.ref p) w
theorem ValP.ex {H H' : Hp} (e : Ex H H') : ∀ {π : List Step} {v u : V}, ValP H π v u → ValP H' π v u
  | _, _, _, .nil => .nil
  | _, _, _, .ixL h q r => .ixL (e _ _ h) q (ValP.ex e r)
  | _, _, _, .ixT h q r => .ixT (e _ _ h) q (ValP.ex e r)
  | _, _, _, .fld h q r => .fld (e _ _ h) q (ValP.ex e r)
  | _, _, _, .key h q r => .key (e _ _ h) q (ValP.ex e r)
theorem ValP.one {H : Hp} : ∀ {π : List Step} {v u u' : V}, ValP H π v u → ValP H π v u' → u = u'
  | _, _, _, _, .nil, .nil => rfl
  | _, _, _, _, .ixL h q r, .ixL h' q' r' => by
    rw [h] at h'; cases h'
    rw [q] at q'; cases q'
    exact r.one r'
  | _, _, _, _, .ixL h q r, .ixT h' q' r' => by rw [h] at h'; cases h'
  | _, _, _, _, .ixT h q r, .ixL h' q' r' => by rw [h] at h'; cases h'
  | _, _, _, _, .ixT h q r, .ixT h' q' r' => by
    rw [h] at h'; cases h'
    rw [q] at q'; cases q'
    exact r.one r'
  | _, _, _, _, .fld h q r, .fld h' q' r' => by
    rw [h] at h'; cases h'
    rw [q] at q'; cases q'
    exact r.one r'
  | _, _, _, _, .key h q r, .key h' q' r' => by
    rw [h] at h'; cases h'
    rw [q] at q'; cases q'
    exact r.one r'
theorem ValP.snoc {H : Hp} {st : Step} {u w : V} : ∀ {π : List Step} {v : V}, ValP H π v u → ValP H [st] u w → ValP H (π ++ [st]) v w
  | _, _, .nil, k => k
  | _, _, .ixL h q r, k => .ixL h q (ValP.snoc r k)
  | _, _, .ixT h q r, k => .ixT h q (ValP.snoc r k)
  | _, _, .fld h q r, k => .fld h q (ValP.snoc r k)
  | _, _, .key h q r, k => .key h q (ValP.snoc r k)
section
variable {cm : Cm}
theorem Reps.focus {W : Addr → Prop} {H : Hp} : ∀ (j : Nat) {vs : List V} {ds : List D} {fp : List Addr} {x : D}, Reps cm W H vs ds fp → ds[j]? = some x → ∃ u A fe B, vs[j]? = some u ∧ Rep cm W H u x fe ∧ fp = A ++ fe ++ B ∧
    ∀ {W' : Addr → Prop} {H' : Hp} {x' : D} {fe' : List Addr}, (∀ a, W' a → W a ∨ H a = none) → (∀ a o, H a = some o → isTb o = false → (¬ W a ∨ a ∈ A ∨ a ∈ B) → H' a = some o) → Rep cm W' H' u x' fe' → Reps cm W' H' vs (ds.set j x') (A ++ fe' ++ B)
  | j, _, _, _, _, .nil, h => by simp at h
  | 0, _, _, _, x, .cons (fp := f1) (fps := f2) (v := v) h r, e => by
    cases e
    exact ⟨v, [], f1, f2, rfl, h, rfl, fun hW hk rp => .cons rp (r.move hW fun a o q t z => hk a o q t (z.imp id .inr))⟩
  | j + 1, _, _, _, x, .cons (fp := f1) (fps := f2) h r, e => by
    obtain ⟨u, A, fe, B, h1, h2, rfl, h4⟩ := Reps.focus j r e
    refine ⟨u, f1 ++ A, fe, B, h1, h2, by simp, fun hW hk rp => ?_⟩
    have := Reps.cons (h.move hW fun a o q t z => hk a o q t (z.imp id fun z => .inl (List.mem_append_left _ z))) (h4 hW (fun a o q t z => hk a o q t (z.imp id fun z => z.imp (List.mem_append_right _) id)) rp)
    simpa using this
theorem Reps.focusF {W : Addr → Prop} {H : Hp} {f : Str} : ∀ {fs : List Str} {vs : List V} {ds : List D} {fp : List Addr} {x : D}, Reps cm W H vs ds fp → getFD f fs ds = some x → ∃ u A fe B, (fs.zip vs).lookup f = some u ∧ Rep cm W H u x fe ∧ fp = A ++ fe ++ B ∧
    ∀ {W' : Addr → Prop} {H' : Hp} {x' : D} {fe' : List Addr}, (∀ a, W' a → W a ∨ H a = none) → (∀ a o, H a = some o → isTb o = false → (¬ W a ∨ a ∈ A ∨ a ∈ B) → H' a = some o) → Rep cm W' H' u x' fe' → Reps cm W' H' vs (setFD f x' fs ds) (A ++ fe' ++ B)
  | [], _, _, _, _, r, h => by unfold getFD at h; cases h
  | g :: gs, _, _, _, _, .nil, h => by unfold getFD at h; cases h
  | g :: gs, _, _, _, x, .cons (fp := f1) (fps := f2) (v := v) h r, e => by
    unfold getFD at e
    rw [List.zip_cons_cons, List.lookup_cons]
    unfold setFD
    by_cases hf : f = g
    · rw [if_pos hf] at e
      cases e
      rw [beq_iff_eq.mpr hf]
      refine ⟨v, [], f1, f2, rfl, h, rfl, fun hW hk rp => ?_⟩
      rw [if_pos hf]
      exact .cons rp (r.move hW fun a o q t z => hk a o q t (z.imp id .inr))
    · rw [if_neg hf] at e
      rw [beq_false_of_ne hf]
      obtain ⟨u, A, fe, B, h1, h2, rfl, h4⟩ := Reps.focusF (fs := gs) r e
      refine ⟨u, f1 ++ A, fe, B, h1, h2, by simp, fun hW hk rp => ?_⟩
      rw [if_neg hf]
      have := Reps.cons (h.move hW fun a o q t z => hk a o q t (z.imp id fun z => .inl (List.mem_append_left _ z))) (h4 hW (fun a o q t z => hk a o q t (z.imp id fun z => z.imp (List.mem_append_right _) id)) rp)
      simpa using this
theorem Reps.focusK {W : Addr → Prop} {H : Hp} {k : List Key} : ∀ {ks : List (List Key)} {vs : List V} {ds : List D} {fp : List Addr} {x : D}, Reps cm W H vs ds fp → getKD k ks ds = some x → ∃ u A fe B, valV (ks.zip vs) k = some u ∧ Rep cm W H u x fe ∧ fp = A ++ fe ++ B ∧
    ∀ {W' : Addr → Prop} {H' : Hp} {x' : D} {fe' : List Addr}, (∀ a, W' a → W a ∨ H a = none) → (∀ a o, H a = some o → isTb o = false → (¬ W a ∨ a ∈ A ∨ a ∈ B) → H' a = some o) → Rep cm W' H' u x' fe' → Reps cm W' H' vs (setKD k x' ks ds) (A ++ fe' ++ B)
  | [], _, _, _, _, r, h => by unfold getKD at h; cases h
  | g :: gs, _, _, _, _, .nil, h => by unfold getKD at h; cases h
  | g :: gs, _, _, _, x, .cons (fp := f1) (fps := f2) (v := v) h r, e => by
    unfold getKD at e
    rw [List.zip_cons_cons]
    unfold setKD
    by_cases hf : g = k
    · rw [if_pos hf] at e
      cases e
      refine ⟨v, [], f1, f2, by unfold valV; rw [List.find?_cons, decide_eq_true hf]; rfl, h, rfl, fun hW hk rp => ?_⟩
      rw [if_pos hf]
      exact .cons rp (r.move hW fun a o q t z => hk a o q t (z.imp id .inr))
    · rw [if_neg hf] at e
      obtain ⟨u, A, fe, B, h1, h2, rfl, h4⟩ := Reps.focusK (ks := gs) r e
      refine ⟨u, f1 ++ A, fe, B, by unfold valV at h1 ⊢; rw [List.find?_cons, decide_eq_false hf]; exact h1, h2, by simp, fun hW hk rp => ?_⟩
      rw [if_neg hf]
      have := Reps.cons (h.move hW fun a o q t z => hk a o q t (z.imp id fun z => .inl (List.mem_append_left _ z))) (h4 hW (fun a o q t z => hk a o q t (z.imp id fun z => z.imp (List.mem_append_right _) id)) rp)
      simpa using this
theorem Rep.focus {W : Addr → Prop} {H : Hp} : ∀ (π : List Step) {v : V} {d e : D} {fp : List Addr}, Rep cm W H v d fp → getP π d = some e → ∃ u A fe B, ValP H π v u ∧ Rep cm W H u e fe ∧ fp = A ++ fe ++ B ∧
    ∀ {W' : Addr → Prop} {H' : Hp} {e' : D} {fe' : List Addr}, (∀ a, W' a → W a ∨ H a = none) → (∀ a o, H a = some o → isTb o = false → (¬ W a ∨ a ∈ A ∨ a ∈ B) → H' a = some o) → Rep cm W' H' u e' fe' → Rep cm W' H' v (setP π e' d) (A ++ fe' ++ B)
  | [], v, d, e, fp, r, h => by
    cases h
    exact ⟨v, [], fp, [], .nil, r, by simp, fun _ _ rp => by simpa [setP] using rp⟩
  | .ix j :: π, v, d, e, fp, r, h => by
    cases r with
    | lstO hp rs =>
      rename_i p vs ds fp'
      replace h : (ds[j]?).bind (getP π) = some e := h
      obtain ⟨x, hx, hg⟩ := Option.bind_eq_some_iff.mp h
      obtain ⟨u, A, fe, B, h1, h2, rfl, h4⟩ := Reps.focus j rs hx
      obtain ⟨u2, A2, fe2, B2, k1, k2, rfl, k4⟩ := Rep.focus π h2 hg
      refine ⟨u2, p :: (A ++ A2), fe2, B2 ++ B, .ixL hp h1 k1, k2, by simp, fun {W' H' e' fe'} hW hk rp => ?_⟩
      have e1 := k4 hW (fun a o q t z => hk a o q t (z.imp id fun z => z.imp (fun m => List.mem_cons_of_mem _ (List.mem_append_right _ m)) (List.mem_append_left _))) rp
      have e2 := h4 hW (fun a o q t z => hk a o q t (z.imp id fun z => z.imp (fun m => List.mem_cons_of_mem _ (List.mem_append_left _ m)) (List.mem_append_right _))) e1
      have e3 : Rep cm W' H' (.ref p) (.lst true (ds.set j (setP π e' x))) (p :: (A ++ (A2 ++ fe' ++ B2) ++ B)) := .lstO (hk _ _ hp rfl (.inr (.inl (List.mem_cons_self ..)))) e2
      have e4 : setP (.ix j :: π) e' (.lst true ds) = .lst true (ds.set j (setP π e' x)) := by simp [setP, hx]
      rw [e4]
      simpa using e3
    | tup hp nw rs =>
      rename_i p vs ds
      replace h : (ds[j]?).bind (getP π) = some e := h
      obtain ⟨x, hx, hg⟩ := Option.bind_eq_some_iff.mp h
      obtain ⟨u, A, fe, B, h1, h2, rfl, h4⟩ := Reps.focus j rs hx
      obtain ⟨u2, A2, fe2, B2, k1, k2, rfl, k4⟩ := Rep.focus π h2 hg
      refine ⟨u2, A ++ A2, fe2, B2 ++ B, .ixT hp h1 k1, k2, by simp, fun {W' H' e' fe'} hW hk rp => ?_⟩
      have e1 := k4 hW (fun a o q t z => hk a o q t (z.imp id fun z => z.imp (List.mem_append_right _) (List.mem_append_left _))) rp
      have e2 := h4 hW (fun a o q t z => hk a o q t (z.imp id fun z => z.imp (List.mem_append_left _) (List.mem_append_right _))) e1
      have e3 : Rep cm W' H' (.ref p) (.tup (ds.set j (setP π e' x))) (A ++ (A2 ++ fe' ++ B2) ++ B) := .tup (hk _ _ hp rfl (.inl nw)) (fun z => (hW _ z).elim nw fun q => by rw [hp] at q; cases q) e2
      have e4 : setP (.ix j :: π) e' (.tup ds) = .tup (ds.set j (setP π e' x)) := by simp [setP, hx]
      rw [e4]
      simpa using e3
    | _ => simp [getP] at h
  | .fld f :: π, v, d, e, fp, r, h => by
    cases r with
    | objO hp l rs =>
      rename_i p dx c fs vs ds fp'
      replace h : (getFD f fs ds).bind (getP π) = some e := h
      obtain ⟨x, hx, hg⟩ := Option.bind_eq_some_iff.mp h
      obtain ⟨u, A, fe, B, h1, h2, rfl, h4⟩ := Reps.focusF rs hx
      obtain ⟨u2, A2, fe2, B2, k1, k2, rfl, k4⟩ := Rep.focus π h2 hg
      refine ⟨u2, p :: (A ++ A2), fe2, B2 ++ B, .fld hp h1 k1, k2, by simp, fun {W' H' e' fe'} hW hk rp => ?_⟩
      have e1 := k4 hW (fun a o q t z => hk a o q t (z.imp id fun z => z.imp (fun m => List.mem_cons_of_mem _ (List.mem_append_right _ m)) (List.mem_append_left _))) rp
      have e2 := h4 hW (fun a o q t z => hk a o q t (z.imp id fun z => z.imp (fun m => List.mem_cons_of_mem _ (List.mem_append_left _ m)) (List.mem_append_right _))) e1
      have e3 : Rep cm W' H' (.ref p) (.obj true c fs (setFD f (setP π e' x) fs ds)) (p :: (A ++ (A2 ++ fe' ++ B2) ++ B)) := .objO (hk _ _ hp rfl (.inr (.inl (List.mem_cons_self ..)))) l e2
      have e4 : setP (.fld f :: π) e' (.obj true c fs ds) = .obj true c fs (setFD f (setP π e' x) fs ds) := by simp [setP, hx]
      rw [e4]
      simpa using e3
    | _ => simp [getP] at h
  | .key k :: π, v, d, e, fp, r, h => by
    cases r with
    | dTO hp l rs =>
      rename_i p ks vs ds fp'
      replace h : (getKD k ks ds).bind (getP π) = some e := h
      obtain ⟨x, hx, hg⟩ := Option.bind_eq_some_iff.mp h
      obtain ⟨u, A, fe, B, h1, h2, rfl, h4⟩ := Reps.focusK rs hx
      obtain ⟨u2, A2, fe2, B2, k1, k2, rfl, k4⟩ := Rep.focus π h2 hg
      refine ⟨u2, p :: (A ++ A2), fe2, B2 ++ B, .key hp h1 k1, k2, by simp, fun {W' H' e' fe'} hW hk rp => ?_⟩
      have e1 := k4 hW (fun a o q t z => hk a o q t (z.imp id fun z => z.imp (fun m => List.mem_cons_of_mem _ (List.mem_append_right _ m)) (List.mem_append_left _))) rp
      have e2 := h4 hW (fun a o q t z => hk a o q t (z.imp id fun z => z.imp (fun m => List.mem_cons_of_mem _ (List.mem_append_left _ m)) (List.mem_append_right _))) e1
      have e3 : Rep cm W' H' (.ref p) (.dT true ks (setKD k (setP π e' x) ks ds)) (p :: (A ++ (A2 ++ fe' ++ B2) ++ B)) := .dTO (hk _ _ hp rfl (.inr (.inl (List.mem_cons_self ..)))) l e2
      have e4 : setP (.key k :: π) e' (.dT true ks ds) = .dT true ks (setKD k (setP π e' x) ks ds) := by simp [setP, hx]
      rw [e4]
      simpa using e3
    | _ => simp [getP] at h
end
end DL

namespace DL
variable [Tbs]
open PySem L2
section
variable {X : Cx} {cm : Cm} {E : XS} {b : Bool} {pos p apos : Pos} {ks : Nat → Bool} {a c e o : Expr} {es : List Expr} {fa : F}
theorem Good.mutG {W0 : Addr → Prop} {H : Hp} {σ : St} {r : Env} {fps : Fps} {i : Nat} {pa : Addr} {v : V} {d' : D} {o : HO} {fpN fpv : List Addr} (g : Good cm (Wp W0 fpv) H σ r fps) (hv : σ[i]? = some (some v)) (ho : isM o = true) (hpa : pa ∈ fps i) (hmk : ∀ W', (∀ a, W' a → Wof (Wp W0 fpv) fps a) → Rep cm W' (upd H pa o) v d' fpN) (hsub : ∀ a ∈ fpN, a ∈ fps i ∨ a ∈ fpv) (nd : fpN.Nodup) (nw : ∀ a ∈ fpv, ¬ W0 a) :
    Good cm W0 (upd H pa o) σ (r.set i (some d')) (fun j => if j = i then fpN else fps j) := by
  have sub : ∀ {j a}, a ∈ (if j = i then fpN else fps j) → (j = i ∧ a ∈ fpN) ∨ (j ≠ i ∧ a ∈ fps j) := fun {j a} m => by
    split at m
    · exact .inl ⟨by assumption, m⟩
    · exact .inr ⟨by assumption, m⟩
  have own : ∀ {j a}, a ∈ (if j = i then fpN else fps j) → Wof (Wp W0 fpv) fps a := fun {j a} m => by
    rcases sub m with ⟨_, m⟩ | ⟨_, m⟩
    · exact (hsub a m).elim (fun m => .inr ⟨i, m⟩) fun m => .inl (.inr m)
    · exact .inr ⟨j, m⟩
  have wsub : ∀ a, Wof W0 (fun j => if j = i then fpN else fps j) a → Wof (Wp W0 fpv) fps a := fun a z => by
    rcases z with z | ⟨j, m⟩
    · exact .inl (.inl z)
    · exact own m
  have mut' : ∀ a, MutAt H a → MutAt (upd H pa o) a := fun a ⟨o', h1, h2⟩ => by
    by_cases e : a = pa
    · subst e; exact ⟨_, upd_same, ho⟩
    · exact ⟨o', by rw [upd_ne e]; exact h1, h2⟩
  have nother : ∀ j a, j ≠ i → a ∈ fps j → a ≠ pa ∧ a ∉ fpN := fun j a hj m => ⟨fun z => hj (g.dj j i a m (z ▸ hpa)), fun z => (hsub a z).elim (fun z => hj (g.dj j i a m z)) fun z => g.nw j a m (.inr z)⟩
  refine ⟨by rw [List.length_set]; exact g.len, ⟨fun a z => mut' a (g.w0.1 a (.inl z)), Tabs.updM g.w0.2 (g.mu i pa hpa)⟩, fun j d hj => ?_, fun j => ?_, fun j j' a m m' => ?_, fun j a m z => ?_, fun j a m => ?_⟩
  · rw [List.getElem?_set] at hj
    by_cases e : i = j
    · subst e
      rw [if_pos rfl] at hj
      split at hj
      · cases hj
        rw [if_pos rfl]
        exact ⟨_, hv, hmk _ wsub⟩
      · cases hj
    · rw [if_neg e] at hj
      rw [if_neg (Ne.symm e)]
      obtain ⟨u, e1, e2⟩ := g.sl j d hj
      refine ⟨u, e1, e2.move (fun a z => .inl (wsub a z)) fun a o q _ cc => ?_⟩
      rw [upd_ne]
      · exact q
      · rcases cc with cc | cc
        · exact fun z => cc (.inr ⟨i, z ▸ hpa⟩)
        · exact (nother j a (Ne.symm e) cc).1
  · split
    · exact nd
    · exact g.nd j
  · rcases sub m with ⟨e, m⟩ | ⟨e, m⟩ <;> rcases sub m' with ⟨e', m'⟩ | ⟨e', m'⟩
    · rw [e, e']
    · exact absurd m (nother j' a e' m').2
    · exact absurd m' (nother j a e m).2
    · exact g.dj j j' a m m'
  · rcases sub m with ⟨_, m⟩ | ⟨_, m⟩
    · exact (hsub a m).elim (fun m => g.nw i a m (.inl z)) fun m => nw a m z
    · exact g.nw j a m (.inl z)
  · exact mut' a (g.wof.1 a (own m))
theorem Fram.mutG {H H1 : Hp} {fps f1 : Fps} {i : Nat} {pa : Addr} {o : HO} {fpN fpv fq : List Addr} (fm : Fram H fps H1 f1 fpv) (hpa : pa ∈ f1 i) (hh : MutAt H1 pa) (hsub : ∀ a ∈ fpN, a ∈ f1 i ∨ a ∈ fpv) (hq : ∀ a ∈ fq, a ∈ f1 i ∨ a ∈ fpv) : Fram H fps (upd H1 pa o) (fun j => if j = i then fpN else f1 j) fq where
  tb := fun h => Tabs.updM (fm.tb h) hh
  keep := fun a u q n t => by
    rw [upd_ne]
    · exact fm.keep a u q n t
    · intro z
      subst z
      rcases fm.old i _ hpa with ⟨j, m⟩ | z
      · exact n j m
      · rw [q] at z; cases z
  old := fun j a m => by
    split at m
    · exact (hsub a m).elim (fm.old i a) (fm.oldv a)
    · exact fm.old j a m
  oldv := fun a m => (hq a m).elim (fm.old i a) (fm.oldv a)
  back := fun a q => by
    by_cases e : a = pa
    · subst e; rw [upd_same] at q; cases q
    · rw [upd_ne e] at q; exact fm.back a q
theorem mut_core {W0 : Addr → Prop} {H H1 : Hp} {σ : St} {r : Env} {fps f1 : Fps} {i : Nat} {v0 : V} {d : D} {π : List Step} {ds : List D} {p1 : List Addr} (g : Good cm (Wp W0 p1) H1 σ r f1) (w1 : ∀ a ∈ p1, ¬ W0 a) (n1 : p1.Nodup) (fm : Fram H fps H1 f1 p1) (hv : σ[i]? = some (some v0)) (hd : r[i]? = some (some d)) (hg : getP π d = some (.lst true ds)) :
    ∃ pa vs fe, ValP H1 π v0 (.ref pa) ∧ H1 pa = some (.lst vs) ∧ Reps cm (Wof (Wp W0 p1) f1) H1 vs ds fe ∧ (∀ a ∈ fe, a ∈ f1 i) ∧ fe.Nodup ∧
      ∀ {vs' : List V} {ds' : List D} {fe' : List Addr}, Reps cm (Wof (Wp W0 p1) f1) H1 vs' ds' fe' → (∀ a ∈ fe', a ∈ fe ∨ a ∈ p1) → fe'.Nodup →
        ∃ fN, Good cm W0 (upd H1 pa (.lst vs')) σ (r.set i (some (setP π (.lst true ds') d))) fN ∧ Fram H fps (upd H1 pa (.lst vs')) fN [] := by
  obtain ⟨v, q1, q2⟩ := g.sl i d hd
  rw [hv] at q1
  cases q1
  obtain ⟨u, A, fe0, B, k1, k2, k3, k4⟩ := q2.focus π hg
  obtain ⟨pa, vs, fe, rfl, hpa, rfl, hr⟩ := k2.lstOf
  have nd := g.nd i
  rw [k3] at nd
  have nd1 := List.nodup_append.mp nd
  have nd2 := List.nodup_append.mp nd1.1
  have nd3 := List.nodup_cons.mp nd2.2.1
  have hsubF : ∀ a ∈ fe, a ∈ f1 i := fun a m => by rw [k3]; exact List.mem_append_left _ (List.mem_append_right _ (List.mem_cons_of_mem _ m))
  have hmem : pa ∈ f1 i := by rw [k3]; exact List.mem_append_left _ (List.mem_append_right _ (List.mem_cons_self ..))
  refine ⟨pa, vs, fe, k1, hpa, hr, hsubF, nd3.2, fun {vs' ds' fe'} hr' hs hn => ?_⟩
  have inA : ∀ a ∈ A, a ∈ f1 i := fun a m => by rw [k3]; exact List.mem_append_left _ (List.mem_append_left _ m)
  have inB : ∀ a ∈ B, a ∈ f1 i := fun a m => by rw [k3]; exact List.mem_append_right _ m
  have p1n : ∀ a ∈ p1, a ∉ f1 i := fun a m z => g.nw i a z (.inr m)
  have nA : pa ∉ A := fun m => nd2.2.2 pa m pa (List.mem_cons_self ..) rfl
  have nB : pa ∉ B := fun m => nd1.2.2 pa (List.mem_append_right _ (List.mem_cons_self ..)) pa m rfl
  have npe : pa ∉ fe' := fun m => (hs pa m).elim nd3.1 fun m => p1n pa m hmem
  have hsub : ∀ a ∈ A ++ (pa :: fe') ++ B, a ∈ f1 i ∨ a ∈ p1 := fun a m => by
    rcases List.mem_append.mp m with m | m
    · rcases List.mem_append.mp m with m | m
      · exact .inl (inA a m)
      · rcases List.mem_cons.mp m with rfl | m
        · exact .inl hmem
        · exact (hs a m).imp (hsubF a) id
    · exact .inl (inB a m)
  have hnd : (A ++ (pa :: fe') ++ B).Nodup := by
    refine List.nodup_append.mpr ⟨List.nodup_append.mpr ⟨nd2.1, List.nodup_cons.mpr ⟨npe, hn⟩, fun x m y m' z => ?_⟩, nd1.2.1, fun x m y m' z => ?_⟩
    · subst z
      rcases List.mem_cons.mp m' with rfl | m'
      · exact nA m
      · rcases hs x m' with m' | m'
        · exact nd2.2.2 x m x (List.mem_cons_of_mem _ m') rfl
        · exact p1n x m' (inA x m)
    · subst z
      rcases List.mem_append.mp m with m | m
      · exact nd1.2.2 x (List.mem_append_left _ m) x m' rfl
      · rcases List.mem_cons.mp m with rfl | m
        · exact nB m'
        · rcases hs x m with m | m
          · exact nd1.2.2 x (List.mem_append_right _ (List.mem_cons_of_mem _ m)) x m' rfl
          · exact p1n x m (inB x m')
  refine ⟨_, g.mutG (o := .lst vs') hv rfl hmem (fun W' hW => k4 (fun a z => .inl (hW a z)) (fun a o q _ z => ?_) (.lstO upd_same (hr'.move (fun a z => .inl (hW a z)) fun a o q _ cc => ?_))) hsub hnd w1, fm.mutG hmem (g.mu i pa hmem) hsub fun _ m => nomatch m⟩
  · rw [upd_ne]
    · exact q
    · rintro rfl
      rcases z with z | z | z
      · exact z (.inr ⟨i, hmem⟩)
      · exact nA z
      · exact nB z
  · rw [upd_ne]
    · exact q
    · rintro rfl
      rcases cc with cc | cc
      · exact cc (.inr ⟨i, hmem⟩)
      · exact npe cc
structure XP (X : Cx) (cm : Cm) (e : Expr) (i : Nat) (fp : Env → Out (List Step)) : Prop where
  ex : ∃ te, PE X e te ∧ ∀ W0 H σ r fps d v0, Good cm W0 H σ r fps → r[i]? = some (some d) → σ[i]? = some (some v0) → ∀ π, fp r = .ok π → (∃ x, getP π d = some x) ∧ ∀ Q : VK, (∀ H' u, Ex H H' → ValP H' π v0 u → Q u H') → te σ H Q
def pVar (i : Nat) : Env → Out (List Step) := fun r => match r[i]? with
  | some (some _) => .ok []
  | _ => .bad
theorem xp_var (i : Nat) (h : PE X e (tVar i)) : XP X cm e i (pVar i) := by
  refine ⟨_, h, fun W0 H σ r fps d v0 g hd hv π hp => ?_⟩
  unfold pVar at hp
  rw [hd] at hp
  cases hp
  exact ⟨⟨d, rfl⟩, fun Q hq => ⟨v0, hv, hq H v0 (Ex.refl H) .nil⟩⟩
theorem getP_snoc {st : Step} : ∀ {π : List Step} {d x : D}, getP π d = some x → getP (π ++ [st]) d = getP [st] x
  | [], d, x, h => by cases h; rfl
  | .ix j :: π, d, x, h => by
    cases d with
    | lst o ds =>
      cases o with
      | false => simp [getP] at h
      | true =>
        obtain ⟨y, h1, h2⟩ := Option.bind_eq_some_iff.mp (show (ds[j]?).bind (getP π) = some x from h)
        show (ds[j]?).bind (getP (π ++ [st])) = _
        rw [h1]
        exact getP_snoc h2
    | tup ds =>
      obtain ⟨y, h1, h2⟩ := Option.bind_eq_some_iff.mp (show (ds[j]?).bind (getP π) = some x from h)
      show (ds[j]?).bind (getP (π ++ [st])) = _
      rw [h1]
      exact getP_snoc h2
    | _ => simp [getP] at h
  | .fld f :: π, d, x, h => by
    cases d with
    | obj o c fs ds =>
      cases o with
      | false => simp [getP] at h
      | true =>
        obtain ⟨y, h1, h2⟩ := Option.bind_eq_some_iff.mp (show (getFD f fs ds).bind (getP π) = some x from h)
        show (getFD f fs ds).bind (getP (π ++ [st])) = _
        rw [h1]
        exact getP_snoc h2
    | _ => simp [getP] at h
  | .key k :: π, d, x, h => by
    cases d with
    | dT o ks ds =>
      cases o with
      | false => simp [getP] at h
      | true =>
        obtain ⟨y, h1, h2⟩ := Option.bind_eq_some_iff.mp (show (getKD k ks ds).bind (getP π) = some x from h)
        show (getKD k ks ds).bind (getP (π ++ [st])) = _
        rw [h1]
        exact getP_snoc h2
    | _ => simp [getP] at h
def itsP (π : List Step) (d : D) : Option (List D) := match getP π d with
  | some (.lst true ds) => some ds
  | some (.tup ds) => some ds
  | _ => none
def pIx (i : Nat) (ns : List Nat) (fp : Env → Out (List Step)) (fk : F) : Env → Out (List Step) := fun r => match fp r, r[i]?, fk (view ns r) with
  | .ok π, some (some d), .ok (.int k) => match itsP π d with
    | some ds => match ixN ds.length k with
      | some j => .ok (π ++ [.ix j])
      | none => .bad
    | none => .bad
  | _, _, _ => .bad
theorem ixN_lt {n : Nat} {k : Int} {j : Nat} (h : ixN n k = some j) : j < n := by
  unfold ixN at h
  split at h
  · split at h
    · cases h; omega
    · cases h
  · split at h
    · cases h; omega
    · cases h
theorem xp_ix (i : Nat) (ns : List Nat) {fp : Env → Out (List Step)} (h : XP X cm e i fp) (hk : DE X cm E0' false c fa) (hs : PlainIx c := by exact fun _ _ => rfl) : XP X cm (.Subscript e c pos) i (pIx i ns fp fa) := by
  obtain ⟨te, a1, a2⟩ := h.ex
  obtain ⟨tk, b1, b2⟩ := hk.ex
  refine ⟨_, pe_ix (ix_list.or ix_tup) a1 b1 hs, fun W0 H σ r fps d v0 g hd hv π hp => ?_⟩
  unfold pIx at hp
  split at hp
  · rename_i π0 d0 k h1 h2 h3
    rw [hd] at h2
    cases h2
    obtain ⟨⟨x, hx⟩, hq⟩ := a2 W0 H σ r fps d v0 g hd hv π0 h1
    unfold itsP at hp
    rw [hx] at hp
    have key : ∀ {ds : List D}, (x = .lst true ds ∨ x = .tup ds) → ∀ {j : Nat}, ixN ds.length k = some j → π = π0 ++ [.ix j] → (∃ y, getP π d = some y) ∧ ∀ Q : VK, (∀ H' u, Ex H H' → ValP H' π v0 u → Q u H') → tOp (fun x y H Q => rIxL X.K x y H Q ∨ rIxT X.K x y H Q) te tk σ H Q := by
      intro ds hxd j hj e
      have hjl : j < ds.length := ixN_lt hj
      refine ⟨⟨ds[j], ?_⟩, fun Q hQ => hq _ fun H1 u e1 vp => ?_⟩
      · rw [e, getP_snoc hx]
        rcases hxd with rfl | rfl <;> simp [getP, hjl]
      · have g1 := g.ex e1
        obtain ⟨v, q1, q2⟩ := g1.sl i d hd
        rw [hv] at q1
        cases q1
        obtain ⟨u', A, fe, B, k1, k2, k3, k4⟩ := q2.focus π0 hx
        cases vp.one k1
        refine b2 (Wr W0 fps ns) H1 σ (view ns r) (g1.wr ns) (g1.view ns) _ ?_
        rw [h3]
        intro y H2 fpv e2 rp fn
        cases rp
        rcases hxd with rfl | rfl
        · cases k2 with
          | lstO hp2 rs =>
            rename_i pa vs fp'
            have hlen := rs.len
            have hu : ∃ w, vs[j]? = some w := ⟨vs[j]'(by omega), by simp [hlen, hjl]⟩
            obtain ⟨w, hw⟩ := hu
            refine .inl ⟨pa, vs, k, w, rfl, rfl, SqL.of (e2 _ _ hp2), by unfold atI; rw [hlen, hj]; exact hw, ?_⟩
            refine hQ H2 w (e1.trans e2) ?_
            rw [e]
            exact (vp.ex e2).snoc (.ixL (e2 _ _ hp2) hw .nil)
        · cases k2 with
          | tup hp2 nw rs =>
            rename_i pa vs
            have hlen := rs.len
            have hu : ∃ w, vs[j]? = some w := ⟨vs[j]'(by omega), by simp [hlen, hjl]⟩
            obtain ⟨w, hw⟩ := hu
            refine .inr ⟨pa, vs, k, w, rfl, rfl, SqT.of (e2 _ _ hp2), by unfold atI; rw [hlen, hj]; exact hw, ?_⟩
            refine hQ H2 w (e1.trans e2) ?_
            rw [e]
            exact (vp.ex e2).snoc (.ixT (e2 _ _ hp2) hw .nil)
    cases x with
    | lst o ds =>
      cases o with
      | false => cases hp
      | true =>
        simp only [] at hp
        split at hp
        · rename_i j hj; cases hp; exact key (.inl rfl) hj rfl
        · cases hp
    | tup ds =>
      simp only [] at hp
      split at hp
      · rename_i j hj; cases hp; exact key (.inr rfl) hj rfl
      · cases hp
    | _ => cases hp
  · cases hp
def pFld (i : Nat) (cl f : Str) (fp : Env → Out (List Step)) : Env → Out (List Step) := fun r => match fp r, r[i]? with
  | .ok π, some (some d) => match getP π d with
    | some (.obj true c' fs ds) => if c' = cl ∧ (getFD f fs ds).isSome = true then .ok (π ++ [.fld f]) else .bad
    | _ => .bad
  | _, _ => .bad
theorem xp_fld (i : Nat) {cl f : Str} {fp : Env → Out (List Step)} (hk : X.K = cm.K) (hC : CmOk cm) (hn : NoAttr X.K (cm.cl cl) f) (h : XP X cm e i fp) (hb : attributeBase e f X.env (eval e X.env) = eval e X.env := by rfl) : XP X cm (.Attribute e f pos) i (pFld i cl f fp) := by
  obtain ⟨te, a1, a2⟩ := h.ex
  refine ⟨_, pe_fld a1 hb, fun W0 H σ r fps d v0 g hd hv π hp => ?_⟩
  unfold pFld at hp
  split at hp
  · rename_i π0 d0 h1 h2
    rw [hd] at h2
    cases h2
    obtain ⟨⟨x, hx⟩, hq⟩ := a2 W0 H σ r fps d v0 g hd hv π0 h1
    rw [hx] at hp
    split at hp
    · rename_i c' fs ds hx'
      cases hx'
      split at hp
      · rename_i hc
        obtain ⟨rfl, hs⟩ := hc
        cases hp
        obtain ⟨y, hy⟩ := Option.isSome_iff_exists.mp hs
        refine ⟨⟨y, by rw [getP_snoc hx]; simp [getP, hy]⟩, fun Q hQ => hq _ fun H1 u e1 vp => ?_⟩
        have g1 := g.ex e1
        obtain ⟨v, q1, q2⟩ := g1.sl i d hd
        rw [hv] at q1
        cases q1
        obtain ⟨u', A, fe, B, k1, k2, k3, k4⟩ := q2.focus π0 hx
        cases vp.one k1
        obtain ⟨hok, pa, dx, vs, fp', rfl, hpa, hlen, _, rs⟩ := k2.objOf
        obtain ⟨w, _, _, _, l1, _, _, _⟩ := Reps.focusF rs hy
        exact ⟨pa, _, dx, _, w, rfl, hpa, by rw [hk]; exact (hC _ hok).cl, hn, l1, hQ H1 w e1 (vp.snoc (.fld hpa l1 .nil))⟩
      · cases hp
    · cases hp
  · cases hp
def sAppP (i : Nat) (fp : Env → Out (List Step)) (ns : List Nat) (f : F) : FX := fun r => match fp r, r[i]?, f (view ns r) with
  | .ok π, some (some d), .ok x => match getP π d, (if shr x = true then frzN ns r else r)[i]? with
    | some (.lst true _), some (some d1) => match getP π d1 with
      | some (.lst true es) => if es.length < 1000000 then .ok (.non, (if shr x = true then frzN ns r else r).set i (some (setP π (.lst true (es ++ [x])) d1))) else .bad
      | _ => .bad
    | _, _ => .bad
  | _, _, _ => .bad
theorem xe_appP (i : Nat) (ns : List Nat) {fp : Env → Out (List Step)} (h : XP X cm a i fp) (h1 : DE X cm E0' true e fa) (hbase : attributeBase a "append" X.env (eval a X.env) = eval a X.env := by rfl)
    (hfew : ((backTo pos (starEach [e] X.env)).all (fun x => !x.1) && (backToKw pos (keywordEach [] X.env)).all (fun x => x.1.isSome) && decide ([e].length + ([] : List Keyword).length + (if ([] : List Keyword).isEmpty then 0 else 1) < 30)) = true := by rfl)
    (hline : (apos.endLine == pos.line) = true := by rfl) (hs : starEach [e] X.env = (false, eval e X.env) :: starEach [] X.env := by rfl) (hplain : (backTo pos (starEach [] X.env)).any (·.1) = false := by rfl) :
    XE X cm E (.Call (.Attribute a "append" apos) [e] [] pos) (sAppP i fp ns fa) := by
  obtain ⟨tp, p1, p2⟩ := h.ex
  obtain ⟨te, a1, a2⟩ := h1.ex
  refine ⟨_, pe_bm PySem.F.plainAttrs_list PySem.F.slot_list_append PySem.F.type_list_append mt_append p1 (pa_cons a1 pa_nil hs) hbase hfew hline hs hplain, fun W0 H σ r fps gd Q hp => ?_⟩
  unfold sAppP at hp
  split at hp
  · rename_i π d x h1 h2 h3
    split at hp
    · rename_i es0 d1 hg hd1
      split at hp
      · rename_i es hg1
        split at hp
        · rename_i hl
          obtain ⟨v0, q1, q2⟩ := gd.sl i d h2
          obtain ⟨_, hq⟩ := p2 W0 H σ r fps d v0 gd h2 q1 π h1
          refine hq _ fun H1 u e1 vp => ?_
          have g1 := gd.ex e1
          obtain ⟨u', _, _, _, k1, k2, _, _⟩ := q2.focus π hg
          cases vp.one (k1.ex e1)
          obtain ⟨pa, vs0, fe0, rfl, hpa0, _, _⟩ := k2.lstOf
          refine ⟨.inl ⟨rfl, _, SqL.of (e1 _ _ hpa0)⟩, ?_⟩
          refine a2 (Wr W0 fps ns) H1 σ (view ns r) (g1.wr ns) (g1.view ns) _ ?_
          rw [h3]
          intro v H2 fpv e2 rp fn
          obtain ⟨f2, g2, rp', hw, fm⟩ := g1.settle ns e2 (Reps.one rp) fn
          have hsx : shrs [x] = shr x := by simp [shrs]
          rw [hsx] at g2
          obtain ⟨pa2, vs, fe, m1, m2, m3, m4, m5, m6⟩ := mut_core g2 hw fn.1 ((Fram.of_ex (fps := fps) (fpv := []) e1 fun _ m => nomatch m).trans fm) q1 hd1 hg1
          cases m1.one (vp.ex e2)
          obtain ⟨fN, gN, fmN⟩ := m6 (Reps.app m3 (Reps.one rp'.the)) (fun a m => by simpa using m) (List.nodup_append.mpr ⟨m5, fn.1, fun a m b m' z => g2.nw i a (m4 a m) (.inr (z ▸ m'))⟩)
          refine ⟨pa, vs, v, rfl, rfl, m2, Nat.lt_of_lt_of_le (show vs.length < 1000000 by rw [m3.len]; exact hl) (by decide), ?_⟩
          exact hp .non _ fN [] (by rw [wp_nil]; exact gN) .non List.nodup_nil (fun _ m => (nomatch m)) fmN
        · exact hp.elim
      · exact hp.elim
    · exact hp.elim
  · exact hp.elim
end
end DL

namespace DL
variable [Tbs]
open PySem L2
section
variable {X : Cx} {cm : Cm} {E : XS} {b : Bool} {pos p apos : Pos} {ks : Nat → Bool} {a c e o : Expr} {es : List Expr} {fa : F}
def sClrP (i : Nat) (fp : Env → Out (List Step)) : FX := fun r => match fp r, r[i]? with
  | .ok π, some (some d) => match getP π d with
    | some (.lst true _) => .ok (.non, r.set i (some (setP π (.lst true []) d)))
    | _ => .bad
  | _, _ => .bad
theorem xe_clrP (i : Nat) {fp : Env → Out (List Step)} (h : XP X cm a i fp) (hbase : attributeBase a "clear" X.env (eval a X.env) = eval a X.env := by rfl) (hline : (apos.endLine == pos.line) = true := by rfl) : XE X cm E (.Call (.Attribute a "clear" apos) [] [] pos) (sClrP i fp) := by
  obtain ⟨tp, p1, p2⟩ := h.ex
  refine ⟨_, pe_bm0 PySem.F.plainAttrs_list PySem.F.slot_list_clear PySem.F.type_list_clear mt_clear p1 hbase hline, fun W0 H σ r fps gd Q hp => ?_⟩
  unfold sClrP at hp
  split at hp
  · rename_i π d h1 h2
    split at hp
    · rename_i es hg
      obtain ⟨v0, q1, q2⟩ := gd.sl i d h2
      obtain ⟨_, hq⟩ := p2 W0 H σ r fps d v0 gd h2 q1 π h1
      refine hq _ fun H1 u e1 vp => ?_
      have g1 := gd.ex e1
      obtain ⟨pa2, vs, fe, m1, m2, m3, m4, m5, m6⟩ := mut_core (p1 := []) (by rw [wp_nil]; exact g1) (fun _ m => nomatch m) List.nodup_nil (Fram.of_ex (fps := fps) (fpv := []) e1 fun _ m => nomatch m) q1 h2 hg
      cases m1.one vp
      obtain ⟨fN, gN, fmN⟩ := m6 .nil (fun _ m => nomatch m) List.nodup_nil
      refine ⟨.inl ⟨rfl, _, SqL.of m2⟩, _, _, rfl, rfl, m2, ?_⟩
      exact hp .non _ fN [] (by rw [wp_nil]; exact gN) .non List.nodup_nil (fun _ m => (nomatch m)) fmN
    · exact hp.elim
  · exact hp.elim
def sExtP (i : Nat) (fp : Env → Out (List Step)) (ns : List Nat) (f : F) : FX := fun r => match fp r, r[i]?, f (view ns r) with
  | .ok π, some (some d), .ok (.lst true xs) => match getP π d, (if shrs xs = true then frzN ns r else r)[i]? with
    | some (.lst true _), some (some d1) => match getP π d1 with
      | some (.lst true es) => if es.length + xs.length ≤ 1000000 then .ok (.non, (if shrs xs = true then frzN ns r else r).set i (some (setP π (.lst true (es ++ xs)) d1))) else .bad
      | _ => .bad
    | _, _ => .bad
  | _, _, _ => .bad
theorem xe_extP (i : Nat) (ns : List Nat) {fp : Env → Out (List Step)} (h : XP X cm a i fp) (h1 : DE X cm E0' true e fa) (hbase : attributeBase a "extend" X.env (eval a X.env) = eval a X.env := by rfl)
    (hfew : ((backTo pos (starEach [e] X.env)).all (fun x => !x.1) && (backToKw pos (keywordEach [] X.env)).all (fun x => x.1.isSome) && decide ([e].length + ([] : List Keyword).length + (if ([] : List Keyword).isEmpty then 0 else 1) < 30)) = true := by rfl)
    (hline : (apos.endLine == pos.line) = true := by rfl) (hs : starEach [e] X.env = (false, eval e X.env) :: starEach [] X.env := by rfl) (hplain : (backTo pos (starEach [] X.env)).any (·.1) = false := by rfl) :
    XE X cm E (.Call (.Attribute a "extend" apos) [e] [] pos) (sExtP i fp ns fa) := by
  obtain ⟨tp, p1, p2⟩ := h.ex
  obtain ⟨te, a1, a2⟩ := h1.ex
  refine ⟨_, pe_bm PySem.F.plainAttrs_list PySem.F.slot_list_extend PySem.F.type_list_extend mt_extend p1 (pa_cons a1 pa_nil hs) hbase hfew hline hs hplain, fun W0 H σ r fps gd Q hp => ?_⟩
  unfold sExtP at hp
  split at hp
  · rename_i π d xs h1 h2 h3
    split at hp
    · rename_i es0 d1 hg hd1
      split at hp
      · rename_i es hg1
        split at hp
        · rename_i hl
          obtain ⟨v0, q1, q2⟩ := gd.sl i d h2
          obtain ⟨_, hq⟩ := p2 W0 H σ r fps d v0 gd h2 q1 π h1
          refine hq _ fun H1 u e1 vp => ?_
          have g1 := gd.ex e1
          obtain ⟨u', _, _, _, k1, k2, _, _⟩ := q2.focus π hg
          cases vp.one (k1.ex e1)
          obtain ⟨pa, vs0, fe0, rfl, hpa0, _, _⟩ := k2.lstOf
          refine ⟨.inl ⟨rfl, _, SqL.of (e1 _ _ hpa0)⟩, ?_⟩
          refine a2 (Wr W0 fps ns) H1 σ (view ns r) (g1.wr ns) (g1.view ns) _ ?_
          rw [h3]
          intro v H2 fpv e2 rp fn
          obtain ⟨f2, g2, rp', hw, fm⟩ := g1.settle ns e2 (Reps.one rp) fn
          have hsx : shrs [D.lst true xs] = shrs xs := by simp [shrs, shr]
          rw [hsx] at g2
          obtain ⟨pb, zs, fz, rfl, hpb, rfl, hrz⟩ := rp'.the.lstOf
          obtain ⟨pa2, vs, fe, m1, m2, m3, m4, m5, m6⟩ := mut_core g2 hw fn.1 ((Fram.of_ex (fps := fps) (fpv := []) e1 fun _ m => nomatch m).trans fm) q1 hd1 hg1
          cases m1.one (vp.ex e2)
          have nz := List.nodup_cons.mp fn.1
          obtain ⟨fN, gN, fmN⟩ := m6 (Reps.app m3 hrz) (fun a m => (List.mem_append.mp m).imp id (List.mem_cons_of_mem _)) (List.nodup_append.mpr ⟨m5, nz.2, fun a m b m' z => g2.nw i a (m4 a m) (.inr (List.mem_cons_of_mem _ (z ▸ m')))⟩)
          refine ⟨pa, pb, vs, zs, rfl, rfl, m2, hpb, Nat.le_trans (show vs.length + zs.length ≤ 1000000 by rw [m3.len, hrz.len]; exact hl) (by decide), ?_⟩
          exact hp .non _ fN [] (by rw [wp_nil]; exact gN) .non List.nodup_nil (fun _ m => (nomatch m)) fmN
        · exact hp.elim
      · exact hp.elim
    · exact hp.elim
  · exact hp.elim
end
end DL

namespace DL
variable [Tbs]
open PySem L2
section
variable {X : Cx} {cm : Cm} {E : XS} {b : Bool} {pos p apos : Pos} {a c e o : Expr} {fa fb : F}
def isLstB : D → Bool
  | .lst _ _ => true
  | _ => false
def c2L (g : D → D → Out D) (fa fb : F) : F := fun r => (fa r).bind fun a => if isLstB a = true then (fb r).bind fun b => g a b else .bad
end
end DL

namespace DL
variable [Tbs]
open PySem L2
section
variable {X : Cx} {cm : Cm} {E : XS} {b : Bool} {pos p apos : Pos} {a c e o : Expr} {fa fb : F}
def cCatN (fa fb : F) : F := fun r => (fa r).bind fun x => (fb r).bind fun y => match x, y with
  | .lst true xs, .lst true ys => if xs.length + ys.length ≤ 1000000 then .ok (.lst true (xs ++ ys)) else .bad
  | _, _ => .bad
end
end DL

namespace DL
variable [Tbs]
open PySem L2 PySem.Froz
def TxR (P : Program) (w : World) (h : Heap) (a : Addr) (l : List Str) : Prop := ∃ D : SD, h.get? a = some (sObj "set" D) ∧ TxOk P w D l ∧ l.Nodup ∧ Ris D.2.2.place.toList ∧ (w.params.followText "set-order" = true ∨ D.2.2.led = true)
section
variable {P : Program} {w : World} {A : Around} {E : Value → Shared → Prop} {s : Shared} {a : Addr} {l : List Str} {k : Str} {u : Tok}
theorem TxR.keep {h h' : Heap} (R : TxR P w h a l) (k : ∀ o, h.get? a = some o → h'.get? a = some o) : TxR P w h' a l := by
  obtain ⟨D, h1, r⟩ := R
  exact ⟨D, k _ h1, r⟩
end
end DL

namespace DL
variable [Tbs]
open PySem L2 PySem.Froz PyProof.Rows
section
variable {P : Program} {w : World} {A : Around} {E : Value → Shared → Prop} {s : Shared} {a : Addr} {l : List Str} {k : Str} {u : Tok}
end
section
variable {X : Cx}
end
end DL

namespace DL
variable [Tbs]
open PySem L2 PyProof.Rows
section
variable {X : Cx} {cm : Cm} {E : XS} {b : Bool} {pos p p2 q : Pos} {a : Expr} {fa : F}
end
end DL

namespace DL
variable [Tbs]
open PySem L2
section
variable {X : Cx} {cm : Cm} {E : XS} {b : Bool} {pos p : Pos} {k n : Nat} {c m : Str} {ps : List Str} {mm : List D → Out D} {a d e : Expr} {fa fb : F}
end
end DL

namespace DL
variable [Tbs]
open PySem L2
section
variable {X : Cx} {cm : Cm} {E : XS} {b : Bool} {pos p : Pos} {a c e : Expr} {rest : List Expr} {fa fb : F}
def cOrS (f g : F) : F := fun r => (f r).bind fun a => match a with
  | .str cs => if cs.length ≤ 1000000 then (if cs = [] then g r else .ok (.str cs)) else .bad
  | _ => .bad
theorem de_orS (h : DE X cm E false a fa) (k : DE X cm E b (.BoolOp .Or (c :: rest) pos) fb) : DE X cm E b (.BoolOp .Or (a :: c :: rest) pos) (cOrS fa fb) := by
  obtain ⟨te, h1, h2⟩ := h.ex
  obtain ⟨tf, k1, k2⟩ := k.ex
  refine ⟨_, pe_orT h1 k1, fun W H σ r w fr Q hp => h2 W H σ r w fr _ (hp.bind.mono (fun d q v H1 fp e1 r1 f1 => ?_) fun _ _ z => z)⟩
  cases d <;> first | exact q.elim | skip
  rename_i cs
  cases r1
  replace q : Post (if cs.length ≤ 1000000 then (if cs = [] then fb r else .ok (.str cs)) else .bad) (QP cm W b H Q) (XPost cm (E σ) W H) := q
  split at q
  · rename_i hz
    refine ⟨decide (cs ≠ []), ⟨by rw [strLen]; exact line6 hz, ?_⟩, ?_⟩
    · rw [strLen]
      cases cs with
      | nil => rfl
      | cons x xs => simp; omega
    · split at q
      · rename_i hc
        rw [if_neg (by simp [hc])]
        exact k2 W H1 σ r (w.ex e1) (fr.ex e1) Q (Post.mono q (fun d q2 v H2 fp e2 r2 f2 => q2 v H2 fp (e1.trans e2) r2 (f2.ex e1)) fun x rr z => XPost.ex e1 z)
      · rename_i hc
        rw [if_pos (by simp [hc])]
        exact q (.str _) H1 [] e1 (.str cs) FpN.nil
  · exact q.elim
theorem num_str (n : Nat) : (toString ((n : Nat) : Int) : Str) = ⟨(TL.numL n).toArray⟩ := by
  have := TL.tl_num n
  apply TL.ext_tl
  rw [show TL.tl (⟨(TL.numL n).toArray⟩ : Str) = TL.numL n by simp [TL.tl]]
  exact this
theorem log_small {n : Nat} (h : n ≤ 1000000) : ((n : Int)).natAbs.log2 < 1920 := by
  show n.log2 < 1920
  by_cases h0 : n = 0
  · subst h0; decide
  · exact Nat.lt_of_lt_of_le ((Nat.log2_lt h0).mpr (show n < 2 ^ 20 by omega)) (by decide)
def gStr : D → Out D
  | .str cs => .ok (.str cs)
  | .int i => if 0 ≤ i ∧ i.toNat ≤ 1000000 then .ok (.str (TL.numL i.toNat)) else .bad
  | _ => .bad
theorem noEx_str : ∀ d x r, gStr d ≠ .exn x r := fun d x r h => by
  unfold gStr at h
  split at h
  · cases h
  · split at h <;> cases h
  · cases h
theorem de_str1 {fs : Env → Out (List D)} (hg : Gl X "str") (hm : X.mg "str" = none) (ha : DA X cm E false [a] fs) (he : starEach [a] X.env = (false, eval a X.env) :: starEach [] X.env := by rfl) (hpl : (backTo pos (starEach [] X.env)).any (·.1) = false := by rfl) : DE X cm E b (.Call (.Name "str" p) [a] [] pos) (cA (g1 gStr) fs) :=
  de_ty (CallR.or SkE.call_str_str call_str_int) (ra_1 fun W H v d w rp Q hp => by
    unfold gStr at hp
    split at hp
    · cases rp; exact .inl ⟨_, rfl, hp _ H [] (Ex.refl H) (.str _) FpN.nil⟩
    · split at hp
      · rename_i i hb
        cases rp
        obtain ⟨n, rfl⟩ := Int.eq_ofNat_of_zero_le hb.1
        refine .inr ⟨_, rfl, log_small (by simpa using hb.2), ?_⟩
        rw [num_str]
        exact hp _ H [] (Ex.refl H) (.str _) FpN.nil
      · exact hp.elim
    · exact hp.elim) (noEx_g1 noEx_str) hg hm (by decide +kernel) ha (by decide) (by decide) he hpl
def jNil : Env → Out (List Nat) := fun _ => .ok []
def jCons (f : F) (g : Env → Out (List Nat)) : Env → Out (List Nat) := fun r => (f r).bind fun d => match d with
  | .str cs => if cs.length ≤ 30000 then (g r).bind fun ds => .ok (cs ++ ds) else .bad
  | _ => .bad
def cJn (g : Env → Out (List Nat)) : F := fun r => (g r).bind fun cs => if cs.length ≤ 1000000 then .ok (.str cs) else .bad
def JCon (cm : Cm) (E : XS) (ts : List TE) (g : Env → Out (List Nat)) : Prop := ∀ W H σ r, WOk cm W H → FRep cm W H σ r → ∀ (acc : List Nat) (Q : Str → Hp → Prop), acc.length + 30000 * ts.length ≤ 1000000 → Post (g r) (fun cs => ∀ H', Ex H H' → Q ⟨(acc ++ cs).toArray⟩ H') (XPost cm (E σ) W H) → tJs ts ⟨acc.toArray⟩ σ H Q
structure DJ (X : Cx) (cm : Cm) (E : XS) (es : List Expr) (g : Env → Out (List Nat)) : Prop where
  ex : ∃ ts, PJ X es ts ∧ JCon cm E ts g ∧ ts.length = es.length
end
section
variable {X : Cx} {cm : Cm} {E : XS} {pos p : Pos} {k n : Nat} {ps : List Str} {sp : Sp} {C f : Addr} {fd : FuncData} {ds : List Value} {dvs : List V} {x : Str}
theorem pe_make0G (M : Mk X.K C f) (F : FnG X.prog X.w X.K X.mg X.base k f fd ps sp) (hr : RoomG (k + 1) X.A) (hg : Gl X x) (hm : X.mg x = some (.ref C)) (hb : Binds X.K fd ps ds) (hd : Vals dvs ds) (hx : PassG X E) (hdb : (x == ("__debug__" : Str)) = false := by decide) :
    PE X (.Call (.Name x p) [] [] pos) (tMakeG C sp dvs E tNil) := by
  refine ⟨fun pins s σ H Q I h => ?_⟩
  refine wpAny_Call_Name_kw (ld_glob I hg hm ?_ hdb)
  exact PySem.W.callWith_K0 (first := []) I.kIn M.kp (run_makeG (us := []) (vs := []) M F hr hb hd hx I .nil h)
theorem de_make0 {cl : Str} {mm : List D → Out (D × D)} {dd : List D} (hok : cm.ok cl) (M : MakeOk X.prog X.w X.K X.mg X.base cm cl k ps dd (spX cm n mm)) (hr : RoomG (k + 1) X.A) (hx : PassG X E) (hg : Gl X cl := by rfl) (hdb : (cl == ("__debug__" : Str)) = false := by decide) : DE X cm E true (.Call (.Name cl p) [] [] pos) (cA (mkO cl n mm dd) aNil) := by
  obtain ⟨f, fd, dvs, ds, F, Mk, hm, hb, hv, hdd⟩ := M.ex
  refine ⟨_, pe_make0G Mk F hr hg hm hb hv hx hdb, fun W H σ env w fr Q hp => acon_nil W H σ env w fr _ (hp.bind.mono (fun ds q vs H1 fp e1 r1 f1 => ?_) fun _ _ z => z)⟩
  cases (show fp = [] from f1)
  exact make_run hok hdd (w.ex e1) r1.ofP (q.mono (fun d q3 z H3 fp3 e3 r3 f3 => q3 z H3 fp3 (e1.trans e3) r3 (f3.ex e1)) fun x rr z => XPost.ex e1 z)
end
end DL

namespace DL
variable [Tbs]
open PySem L2
section
variable {X : Cx} {cm : Cm} {E : XS} {b : Bool} {pos p apos : Pos} {a c e : Expr} {fa fb : F}
def gSplit : D → D → Out D := fun s l => match s, l with
  | .str cs, .str [k] => if cs.length ≤ 1000000 ∧ k < 256 then .ok (.lst true ((TL.spl [k] 0 [] cs).map .str)) else .bad
  | _, _ => .bad
def parD (cs : List Nat) (k : Nat) : D := match TL.par [k] [] cs with
  | some (x, y) => .tup [.str x, .str [k], .str y]
  | none => .tup [.str cs, .str [], .str []]
def gPart : D → D → Out D := fun s l => match s, l with
  | .str cs, .str [k] => if cs.length ≤ 1000000 then .ok (parD cs k) else .bad
  | _, _ => .bad
def gStarts : D → D → Out D := fun s l => match s, l with
  | .str cs, .str [k] => .ok (.bl (decide (cs.head? = some k)))
  | _, _ => .bad
theorem noEx_split : NoEx gSplit := fun a b x r h => by
  unfold gSplit at h
  split at h
  · split at h <;> cases h
  · cases h
theorem noEx_part : NoEx gPart := fun a b x r h => by
  unfold gPart at h
  split at h
  · split at h <;> cases h
  · cases h
theorem noEx_starts : NoEx gStarts := fun a b x r h => by
  unfold gStarts at h
  split at h <;> cases h
theorem split_list {cs : List Nat} {k : Nat} (hk : k < 256) : Txt.split ⟨cs.toArray⟩ ⟨[k].toArray⟩ = (TL.spl [k] 0 [] cs).map fun y => ⟨y.toArray⟩ := by
  refine TL.map_tl_inj ?_
  have e := TL.split_spl ⟨cs.toArray⟩ ⟨[k].toArray⟩ (by simp [TL.tl]) (TL.kind_ok (by simpa using hk))
  rw [show TL.tl ⟨cs.toArray⟩ = cs from by simp [TL.tl], show TL.tl ⟨[k].toArray⟩ = [k] from by simp [TL.tl]] at e
  rw [e, List.map_map]
  conv => lhs; rw [← List.map_id (TL.spl [k] 0 [] cs)]
  exact List.map_congr_left fun y _ => by simp [TL.tl]
theorem reps_strs {W : Addr → Prop} {H : Hp} : ∀ ys : List (List Nat), Reps cm W H (ys.map fun y => V.str ⟨y.toArray⟩) (ys.map .str) []
  | [] => .nil
  | y :: ys => .cons (fp := []) (.str y) (reps_strs ys)
theorem de_split (ha : DE X cm E false a fa) (hb : DE X cm E false c fb) (hs : starEach [c] X.env = [(false, eval c X.env)] := by rfl) (hbase : attributeBase a "split" X.env (eval a X.env) = eval a X.env := by rfl) (hline : (apos.endLine == pos.line) = true := by rfl) :
    DE X cm E true (.Call (.Attribute a "split" apos) [c] [] pos) (c2S gSplit fa fb) :=
  de_m1 (te := fun x _ => x) (fun ta tb h1 h3 => pe_split h1 h3 hs hbase hline) (fun W H x y dx dy w rx ry Q hp => by
    unfold gSplit at hp
    split at hp
    · rename_i cs k
      split at hp
      · rename_i hz
        cases rx
        cases ry
        refine ⟨_, _, rfl, rfl, by rfl, ?_, fun p hp0 => ?_⟩
        · rw [strLen]
          exact Nat.le_trans (show cs.length + 2 ≤ 1000002 by omega) (by decide)
        · rw [split_list hz.2, List.map_map]
          exact hp (.ref p) _ [p] (Ex.new hp0) (.lstO upd_same (reps_strs _)) ⟨by simp, fun a m => by cases List.mem_singleton.mp m; exact hp0⟩
      · exact hp.elim
    · exact hp.elim) noEx_split ha hb
theorem de_part (ha : DE X cm E false a fa) (hb : DE X cm E false c fb) (hs : starEach [c] X.env = [(false, eval c X.env)] := by rfl) (hbase : attributeBase a "partition" X.env (eval a X.env) = eval a X.env := by rfl) (hline : (apos.endLine == pos.line) = true := by rfl) :
    DE X cm E b (.Call (.Attribute a "partition" apos) [c] [] pos) (c2S gPart fa fb) :=
  de_m1 (te := fun x _ => x) (fun ta tb h1 h3 => pe_partition h1 h3 hs hbase hline) (fun W H x y dx dy w rx ry Q hp => by
    unfold gPart at hp
    split at hp
    · rename_i cs k
      split at hp
      · rename_i hz
        cases rx
        cases ry
        refine ⟨_, _, rfl, rfl, by rfl, by rw [strLen]; exact line6 hz, fun p hp0 => ?_⟩
        have e := TL.partition_par ⟨cs.toArray⟩ ⟨[k].toArray⟩ (by simp [TL.tl])
        rw [show TL.tl ⟨cs.toArray⟩ = cs from by simp [TL.tl], show TL.tl ⟨[k].toArray⟩ = [k] from by simp [TL.tl]] at e
        have nW : ¬ Wp W [] p := fun z => z.elim (w.fresh hp0) fun m => nomatch m
        unfold parD at hp
        rw [e]
        cases hpar : TL.par [k] [] cs with
        | none =>
          rw [hpar] at hp
          exact hp (.ref p) _ [] (Ex.new hp0) (.tup upd_same nW (.cons (fp := []) (.str cs) (.cons (fp := []) (.str []) (.cons (fp := []) (.str []) .nil)))) FpN.nil
        | some xy =>
          obtain ⟨x, y⟩ := xy
          rw [hpar] at hp
          exact hp (.ref p) _ [] (Ex.new hp0) (.tup upd_same nW (.cons (fp := []) (.str x) (.cons (fp := []) (.str [k]) (.cons (fp := []) (.str y) .nil)))) FpN.nil
      · exact hp.elim
    · exact hp.elim) noEx_part ha hb
theorem starts_one (cs : List Nat) (k : Nat) : Txt.startswith ⟨cs.toArray⟩ ⟨[k].toArray⟩ = decide (cs.head? = some k) := by
  unfold Txt.startswith
  cases cs with
  | nil => simp [Str.length]
  | cons x xs =>
    have e1 : Builtin.Str.subAt ⟨(x :: xs).toArray⟩ ⟨[k].toArray⟩ 0 = decide (x = k) := by
      unfold Builtin.Str.subAt
      have : (⟨(x :: xs).toArray⟩ : Str).cps.extract 0 (0 + (⟨[k].toArray⟩ : Str).length) = #[x] := by
        simp [Str.length]
      rw [this, Bool.eq_iff_iff]
      simp
    rw [e1]
    have e2 : 0 + (⟨[k].toArray⟩ : Str).length ≤ (⟨(x :: xs).toArray⟩ : Str).length := by simp [Str.length]
    rw [decide_eq_true e2]
    simp
theorem de_starts (ha : DE X cm E false a fa) (hb : DE X cm E false c fb) (hs : starEach [c] X.env = [(false, eval c X.env)] := by rfl) (hbase : attributeBase a "startswith" X.env (eval a X.env) = eval a X.env := by rfl) (hline : (apos.endLine == pos.line) = true := by rfl) :
    DE X cm E b (.Call (.Attribute a "startswith" apos) [c] [] pos) (c2S gStarts fa fb) :=
  de_m1 (te := fun x _ => x) (fun ta tb h1 h3 => pe_m1 PySem.F.slot_str_startswith PySem.F.type_str_startswith mt_startswith h1 h3 hs hbase hline) (fun W H x y dx dy w rx ry Q hp => by
    unfold gStarts at hp
    split at hp
    · rename_i cs k
      cases rx
      cases ry
      refine ⟨_, _, rfl, rfl, ?_⟩
      rw [starts_one]
      exact hp _ H [] (Ex.refl H) (.bl _) FpN.nil
    · exact hp.elim) noEx_starts ha hb
def gIntS : D → Out D
  | .int i => .ok (.int i)
  | .bl k => .ok (.int (if k then 1 else 0))
  | .str cs => if (cs.all (fun c => decide (48 ≤ c) && decide (c ≤ 57))) = true ∧ cs ≠ [] ∧ cs.length ≤ 600 then .ok (.int (NumText.digitsVal cs : Nat)) else .bad
  | _ => .bad
theorem noEx_intS : ∀ d x r, gIntS d ≠ .exn x r := fun d x r h => by
  unfold gIntS at h
  split at h
  · cases h
  · cases h
  · split at h <;> cases h
  · cases h
theorem de_intS {fs : Env → Out (List D)} (hg : Gl X "int") (hm : X.mg "int" = none) (ha : DA X cm E false [a] fs) (he : starEach [a] X.env = (false, eval a X.env) :: starEach [] X.env := by rfl) (hpl : (backTo pos (starEach [] X.env)).any (·.1) = false := by rfl) : DE X cm E b (.Call (.Name "int" p) [a] [] pos) (cA (g1 gIntS) fs) :=
  de_ty (CallR.or call_int1 call_int_str) (ra_1 fun W H v d w rp Q hp => by
    unfold gIntS at hp
    split at hp
    · cases rp; exact .inl (.inl ⟨_, rfl, hp _ H [] (Ex.refl H) (.int _) FpN.nil⟩)
    · cases rp; exact .inl (.inr ⟨_, rfl, hp _ H [] (Ex.refl H) (.int _) FpN.nil⟩)
    · split at hp
      · rename_i cs hc
        cases rp
        refine .inr ⟨_, _, rfl, SX.int_S (a := cs) hc.1 hc.2.1 (by omega), by rw [strLen]; omega, hp _ H [] (Ex.refl H) (.int _) FpN.nil⟩
      · exact hp.elim
    · exact hp.elim) (noEx_g1 noEx_intS) hg hm (by decide +kernel) ha (by decide) (by decide) he hpl
end
end DL

namespace DL
variable [Tbs]
open PySem L2
def sTryN (g : FS) : FS := fun r => match g r with
  | .exn _ _ => .bad
  | o => o
theorem ps_tryN {X : Cx} {body : List Stmt} {h0 : ExceptHandler} {hs : List ExceptHandler} {pos : Pos} {tb : WX → TS}
    (hb : ∀ (W : WX) (pn : List (Addr × Obj)) (xe : Value → Shared → Prop), Takes (X.tr pn xe) W → PassesOwn (model X.prog X.w) X.A X.env xe → PSs (X.tr pn xe) body (tb W)) :
    PS X (.Try body (h0 :: hs) [] [] pos) (fun D σ H => tb (fun _ _ _ _ => False) D σ H) := by
  constructor
  intro pins s σ H D I h
  have ok := I.ok
  apply wpAny_Try_except
  let M := model X.prog X.w
  let xe : Value → Shared → Prop := fun e s₁ => wpAny M X.A (noteFrame e X.env) (fun _ s₂ => wpAny M X.A (setFlight e none) (fun _ s₃ => wpAny M X.A (handleBy e X.env (h0 :: hs)) (SP X pins D) X.xe s₃) X.xe s₂) X.xe s₁
  have catch_ : Takes (X.tr (X.pn ++ pins) xe) (fun _ _ _ _ => False) := by
    rintro u s' ⟨a, B, sI, pins', σ', H', cls, d, rfl, J', nb, up, sky, na, os, ag, z⟩
    exact z.elim
  refine wpAny_mono ((hb (fun _ _ _ _ => False) (X.pn ++ pins) xe catch_ PassesOwn.looking).run [] s σ H D (I.toTry _) h) ?_ (fun e s1 he => he)
  intro f s1 hsp
  match f, hsp with
  | .next, ⟨σ', H', J', q⟩ => exact wpAny_execs_nil ⟨σ', H', J'.ofTry ok, q⟩
  | .brk, ⟨σ', H', J', q⟩ => exact ⟨σ', H', J'.ofTry ok, q⟩
  | .cont, ⟨σ', H', J', q⟩ => exact ⟨σ', H', J'.ofTry ok, q⟩
  | .ret u, ⟨v, σ', H', J', r, q⟩ => exact ⟨v, σ', H', J'.ofTry ok, r, q⟩
section
variable {X : Cx} {cm : Cm} {E : XS} {pos : Pos} {ks : Nat → Bool}
theorem ds_tryN {body : List Stmt} {h0 : ExceptHandler} {hs : List ExceptHandler} {g : FS}
    (hb : ∀ (E' : XS) (pn : List (Addr × Obj)) (xe : Value → Shared → Prop), TakesG (X.tr pn xe) E' → PassesOwn (model X.prog X.w) X.A X.env xe → DSs (X.tr pn xe) cm E' ks body g) :
    DS X cm E ks (.Try body (h0 :: hs) [] [] pos) (sTryN g) := by
  refine ⟨_, ps_tryN (tb := fun W => tsOf cm (fun σ cls d H => W cls d σ H) ks g) (fun W pn' xe t po => (hb (fun σ cls d H => W cls d σ H) pn' xe t po).pss), fun W0 H σ r fps gd D hp => ?_⟩
  refine ⟨W0, r, fps, gd, ?_⟩
  unfold sTryN at hp
  cases hr : g r with
  | exn x r' => rw [hr] at hp; exact hp.elim
  | _ => rw [hr] at hp; exact hp
end
end DL

namespace DL
variable [Tbs]
open PySem L2
structure ClsI (K : PySem.W.Frag) (C : Addr) : Prop where
  rd : PySem.W.readsIn K C (.type "type") = true
  ga : PySem.W.specialIn K (.ref C) "__getattribute__" = some (some (.builtin "type.__getattribute__"))
  vi : PySem.W.findCls K (.ref C) (.type "type") "__init__" = some (.val (.builtin "ValueError.__init__"))
section
variable {X : Cx} {o e : Expr} {es : List Expr} {ta : TA} {p1 p2 pos : Pos} {x : Str} {C : Addr}
end
def Hx (H : Hp) (a C dx : Addr) (fs : List (Str × V)) : Hp := upd (upd H dx (exd dx fs)) a (exo a C (some dx))
def spI (K : PySem.W.Frag) (ns : List Str) : Sp := fun vs H Q E => ∃ a C ws, vs = .ref a :: ws ∧ ws.length = ns.length ∧ OexC K C ∧ (∀ f ∈ ns, PySem.W.findIn K (.ref C) f = some none) ∧ H a = some (exo a C none) ∧ ∀ dx, H dx = none → dx ≠ a → Q .non (Hx H a C dx (ns.zip ws).reverse)
abbrev CXn : CXT := fun _ _ _ _ _ _ => False
section
variable {P : Program} {w : World} {K : PySem.W.Frag} {mg : Str → Option Value} {base : Heap} {qual : Str} {st : Stmt} {f : Addr} {fd : FuncData} {m f1 f2 f3 p1 p2 p3 : Str}
end
structure ExcF (P : Program) (w : World) (K : PySem.W.Frag) (mg : Str → Option Value) (base : Heap) (cm : Cm) (c : Str) (ns : List Str) : Prop where
  g : mg c = some (.ref (cm.cl c))
  o : OexC K (cm.cl c)
  na : ∀ f ∈ ns, PySem.W.findIn K (.ref (cm.cl c)) f = some none
  ex : ∃ fI fd ps, PySem.W.findIn K (.ref (cm.cl c)) "__init__" = some (some (.ref fI)) ∧ PySem.W.typeIn K (.ref fI) = some (.type "function") ∧ FnOk P w K mg base CXn 1 fI fd ps (spI K ns) ∧ Binds K fd ps []
section
variable {X : Cx} {cm : Cm} {E : XS} {pos p pos2 : Pos} {ks : Nat → Bool} {e : Expr} {es : List Expr}
end
end DL

namespace DL
variable [Tbs]
open PySem L2
section
variable {X : Cx} {cm : Cm} {E : XS} {b : Bool} {pos : Pos} {e : Expr} {fa : F}
end
end DL

namespace DL
variable [Tbs]
open PySem L2
end DL

namespace DL
variable [Tbs]
open PySem L2
def keyD : D → Option Key
  | .int i => some (.inl i)
  | .str x => some (.inr ⟨x.toArray⟩)
  | _ => none
def keysD : List D → Option (List Key)
  | [] => some []
  | d :: ds => match keyD d, keysD ds with
    | some k, some ks => some (k :: ks)
    | _, _ => none
instance memK (k : List Key) (ks : List (List Key)) : Decidable (k ∈ ks) := if h : (ks.any fun g => decide (g = k)) = true then .isTrue (by
  obtain ⟨g, m, e⟩ := List.any_eq_true.mp h
  rw [decide_eq_true_eq] at e
  exact e ▸ m) else .isFalse fun m => h (List.any_eq_true.mpr ⟨k, m, by simp⟩)
section
variable {cm : Cm} {W : Addr → Prop} {H : Hp}
end
end DL

namespace DL
variable [Tbs]
open PySem L2
section
variable {X : Cx} {cm : Cm} {E : XS} {b : Bool} {pos : Pos} {a c : Expr} {fa fb : F}
end
end DL

namespace DL
variable [Tbs]
open PySem L2
section
variable {X : Cx} {cm : Cm} {E : XS} {b : Bool} {pos : Pos} {a c : Expr} {fa fb : F}
end
end DL

namespace DL
variable [Tbs]
open PySem L2
def Swp (H H' : Hp) (d : Addr) (kvs : List (List Key × V)) : Prop := (∀ a, a ≠ d → H' a = H a) ∧ ∃ od, (H d = some (.dT kvs) ∧ H' d = some (.frz od (.dT kvs))) ∨ (H d = some (.frz od (.dT kvs)) ∧ H' d = some (.dT kvs))
section
variable {cm : Cm} {W : Addr → Prop} {H H' : Hp} {d : Addr} {kvs : List (List Key × V)}
theorem Swp.at0 {a : Addr} {o : HO} (s : Swp H H' d kvs) (h : H a = some o) (n1 : o ≠ .dT kvs) (n2 : ∀ od, o ≠ .frz od (.dT kvs)) : H' a = some o := by
  rw [s.1 a]
  · exact h
  · rintro rfl
    obtain ⟨od, ⟨q, _⟩ | ⟨q, _⟩⟩ := s.2
    · rw [h] at q; exact n1 (Option.some.inj q)
    · rw [h] at q; exact n2 od (Option.some.inj q)
def isDT : HO → Bool
  | .dT _ => true
  | .frz _ (.dT _) => true
  | _ => false
theorem Swp.at {a : Addr} {o : HO} (s : Swp H H' d kvs) (h : H a = some o) (n : isDT o = false) : H' a = some o := s.at0 h (fun z => by rw [z] at n; cases n) fun od z => by rw [z] at n; cases n
theorem Swp.tb {T : List (Addr × Str)} (s : Swp H H' d kvs) (t : LamX.Tabs T H) : LamX.Tabs T H' := fun q hq => by
  obtain ⟨ps, h1, h2, h3⟩ := t q hq
  refine ⟨ps, s.at h1 rfl, h2, fun pos cv hc => ?_⟩
  obtain ⟨c, e1, e2⟩ := h3 pos cv hc
  exact ⟨c, e1, s.at e2 rfl⟩
theorem Swp.off {a : Addr} {o : HO} (s : Swp H H' d kvs) (h : H a = some o) (n : d ≠ a) : H' a = some o := (s.1 a (Ne.symm n)).trans h
theorem Swp.rd {p : Addr} {k2 : List (List Key × V)} (s : Swp H H' d kvs) (h : Rd H p (.dT k2)) : Rd H' p (.dT k2) := by
  by_cases e : p = d
  · obtain ⟨od, ⟨q, q'⟩ | ⟨q, q'⟩⟩ := s.2
    · rw [← e] at q q'
      rcases h with h | ⟨o, h⟩
      · rw [h] at q; cases q; exact .inr ⟨od, q'⟩
      · rw [h] at q; cases q
    · rw [← e] at q q'
      rcases h with h | ⟨o, h⟩
      · rw [h] at q; cases q
      · rw [h] at q; cases q; exact .inl q'
  · exact h.imp (fun h => (s.1 p e).trans h) fun ⟨o, h⟩ => ⟨o, (s.1 p e).trans h⟩
mutual
theorem Rep.swap (s : Swp H H' d kvs) : ∀ {v : V} {x : D} {fp : List Addr}, Rep cm W H v x fp → d ∉ fp → Rep cm W H' v x fp
  | _, _, _, .non, _ => .non
  | _, _, _, .bl b, _ => .bl b
  | _, _, _, .int i, _ => .int i
  | _, _, _, .str x, _ => .str x
  | _, _, _, .lstO h r, m => .lstO (s.at h rfl) (Reps.swap s r fun z => m (List.mem_cons_of_mem _ z))
  | _, _, _, .lstF h n r, m => .lstF (s.at h rfl) n (Reps.swap s r m)
  | _, _, _, .tup h n r, m => .tup (s.at h rfl) n (Reps.swap s r m)
  | _, _, _, .dKO h l r, m => .dKO (s.at h rfl) l (Reps.swap s r fun z => m (List.mem_cons_of_mem _ z))
  | _, _, _, .dKF h l n r, m => .dKF (h.imp (fun h => s.at h rfl) fun ⟨o, h⟩ => ⟨o, s.at h rfl⟩) l n (Reps.swap s r m)
  | _, _, _, .dTO h l r, m => .dTO (s.off h fun z => m (z ▸ List.mem_cons_self ..)) l (Reps.swap s r fun z => m (List.mem_cons_of_mem _ z))
  | _, _, _, .dTF h l n r, m => .dTF (s.rd h) l n (Reps.swap s r m)
  | _, _, _, .objO h l r, m => .objO (s.at h rfl) l (Reps.swap s r fun z => m (List.mem_cons_of_mem _ z))
  | _, _, _, .objF h l n r, m => .objF (s.at h rfl) l n (Reps.swap s r m)
  | _, _, _, .scrF h n, m => .scrF (s.at h rfl) n
  | _, _, _, .scrK h, m => .scrK h
  | _, _, _, .exc h n q l r, m => .exc (s.at h rfl) n (q.imp id fun ⟨a, h1, h2, h3⟩ => ⟨a, h1, s.at h2 rfl, h3⟩) l (Reps.swap s r m)
  | _, _, _, .dNO h l k r, m => .dNO (s.at h rfl) l (fun x q => NK.cg (fun a o z => s.at z rfl) (k x q)) (Reps.swap s r fun z => m (List.mem_cons_of_mem _ z))
  | _, _, _, .dNF h l n k r, m => .dNF (s.at h rfl) l n (fun x q => NK.cg (fun a o z => s.at z rfl) (k x q)) (Reps.swap s r m)
  | _, _, _, .any, _ => .any
theorem Reps.swap (s : Swp H H' d kvs) : ∀ {vs : List V} {xs : List D} {fp : List Addr}, Reps cm W H vs xs fp → d ∉ fp → Reps cm W H' vs xs fp
  | _, _, _, .nil, _ => .nil
  | _, _, _, .cons h r, m => .cons (Rep.swap s h fun z => m (List.mem_append_left _ z)) (Reps.swap s r fun z => m (List.mem_append_right _ z))
end
theorem Good.swap {W0 : Addr → Prop} {σ : St} {r : Env} {fps : Fps} (g : Good cm W0 H σ r fps) (s : Swp H H' d kvs) (h1 : ¬ W0 d) (h2 : ∀ j, d ∉ fps j) : Good cm W0 H' σ r fps where
  len := g.len
  w0 := ⟨fun a z => by
    obtain ⟨o, q, m⟩ := g.w0.1 a z
    exact ⟨o, by rw [s.1 a fun e => h1 (e ▸ z)]; exact q, m⟩, s.tb g.w0.2⟩
  sl := fun i x hx => by
    obtain ⟨v, q1, q2⟩ := g.sl i x hx
    exact ⟨v, q1, q2.swap s (h2 i)⟩
  nd := g.nd
  dj := g.dj
  nw := g.nw
  mu := fun i a m => by
    obtain ⟨o, q, mo⟩ := g.mu i a m
    exact ⟨o, by rw [s.1 a fun e => h2 i (e ▸ m)]; exact q, mo⟩
end
end DL

namespace DL
variable [Tbs]
open PySem L2
section
variable {X : Cx} {cm : Cm} {E : XS} {pos : Pos} {ks : Nat → Bool} {tg : Expr} {g : FS}
end
section
variable {cm : Cm} {W : Addr → Prop} {H : Hp}
end
section
variable {X : Cx} {cm : Cm} {E : XS} {pos : Pos} {ks0 : Nat → Bool} {tg : Expr} {g : FS}
end
end DL

namespace DL
variable [Tbs]
open PySem L2 PyProof.Rows PySem.Spec
theorem RoomG.u1 {k : Nat} {A : Around} (r : RoomG k A) : A.units + 1 < cLine := Nat.lt_of_le_of_lt (by omega) r.units
theorem RoomG.u2 {k : Nat} {A : Around} (r : RoomG k A) : A.units + 2 < cLine := Nat.lt_of_le_of_lt (by omega) r.units
def hsh (i j : Int) : Int := reduceHash (Builtin.Tuple.tupleHashOf [hashInt i, hashInt j])
section
variable {X : Cx}
end
end DL

namespace DL
variable [Tbs]
open PySem L2 L2.DX PySem.Spec
section
variable {prog : Program} {w : World} {A : Around} {E : Value → Shared → Prop} {s : Shared} {r d : Addr} {es : Array DictEntry} {ep : Nat}
end
section
variable {X : Cx}
end
end DL

namespace DL
variable [Tbs]
open PySem L2 L2.DX PySem.Spec
section
variable {X : Cx}
end
section
variable {X : Cx} {cm : Cm} {E : XS} {b : Bool} {pos p p2 q : Pos} {a : Expr} {fa : F}
end
section
variable {cm : Cm} {W : Addr → Prop} {H : Hp}
end
section
variable {X : Cx} {cm : Cm} {E : XS} {b : Bool} {pos p p2 q : Pos} {a : Expr} {fa : F}
end
section
variable {X : Cx} {cm : Cm} {E : XS} {b : Bool} {pos p p2 q : Pos} {a : Expr} {fa : F}
end
end DL

namespace DL
variable [Tbs]
open PySem L2 PySem.Spec
section
variable {X : Cx} {cm : Cm} {E : XS} {k n : Nat} {c : Str} {ps : List Str} {mm : List D → Out D}
end
end DL

namespace DL
variable [Tbs]
open PySem L2 PySem.Spec
section
variable {X : Cx} {cm : Cm} {E : XS} {k n : Nat} {c : Str} {ps : List Str} {mm : List D → Out D}
end
section
variable {cm : Cm} {b : Bool} {c : Str} {mm : List D → Out D}
theorem Reps.at1 {W : Addr → Prop} {H : Hp} : ∀ {vs : List V} {ds : List D} {fp : List Addr} {j : Nat} {v : V} {d : D}, Reps cm W H vs ds fp → fp = [] → vs[j]? = some v → ds[j]? = some d → Rep cm W H v d []
  | _, _, _, j, _, _, .nil, _, h, _ => by simp at h
  | _, _, _, 0, v, d, .cons r rs, e, h1, h2 => by
    obtain ⟨rfl, rfl⟩ := app_nil e.symm
    cases h1
    cases h2
    exact r
  | _, _, _, j + 1, v, d, .cons r rs, e, h1, h2 => by
    obtain ⟨rfl, rfl⟩ := app_nil e.symm
    exact Reps.at1 rs rfl (by simpa using h1) (by simpa using h2)
end
end DL

namespace DL
variable [Tbs]
open PySem L2
open PyProof.Rows (envOfC)
open LamX (CodeO TabB LamS lamEnv lamCx)
structure LamB (mg : Str → Option Value) (base : Heap) (cd : Value) (q : Str) : Prop where
  ex : ∃ c P, cd = .ref c ∧ TabB base mg c P ∧ (P, q) ∈ Tbs.T ∧ ∀ p ∈ Tbs.T, p.1 = P → p.2 = q
def Acts (P : Program) (w : World) (K : PySem.W.Frag) (mg : Str → Option Value) (base : Heap) (A : Around) (outer : List PySem.Env) (s : Shared) (H : Hp) (f d : Addr) (q : Str) (j : Nat) (tl : XK → Hp → VK → Prop) : Prop :=
  ∀ (N : List Str) (x : Str) (sg : Scope) (g : Addr) (cdg : Value) (Eg : XK) (i : Nat) (a : Str) (pn : List (Addr × Obj)) (xe : Value → Shared → Prop) (E : XS) (p1 p2 : Pos), N[i]? = some a → Vis sg a → (a == ("__debug__" : Str)) = false → (a == ("__classdict__" : Str)) = false →
    RoomG (j + 1) (A.deeper (envOfC x sg s.heap.objs.size g cdg)) → TakesG ((cxB P w K mg base N x sg g cdg A outer s H Eg).tr pn xe) E →
    PE ((cxB P w K mg base N x sg g cdg A outer s H Eg).tr pn xe) (.Call (.Name a p1) [] [] p2) (fun σ H' Q => σ[i]? = some (some (.ref f)) ∧ H' d = some (CodeO d q) ∧ tl (E σ) H' Q)
structure KindOk (P : Program) (w : World) (K : PySem.W.Frag) (mg : Str → Option Value) (base : Heap) (cm : Cm) (x : Str) (k : Nat) (m : Out D → Out D) : Prop where
  ex : ∃ g, mg x = some (.ref g) ∧ PySem.W.keepIn K (.ref g) = true ∧ ∀ (A : Around) (outer : List PySem.Env) (s : Shared) (H : Hp) (f d : Addr) (q : Str) (j : Nat) (tl : XK → Hp → VK → Prop) (o : Out D) (W : Addr → Prop) (Q : VK) (E : XK), k ≤ j + 2 → RoomG (j + 2) A → Env0 P w K mg base A outer s H → WOk cm W H →
    Acts P w K mg base A outer s H f d q j tl → H d = some (CodeO d q) → (∀ H', Ex H H' → ∀ (E : XK) (Q : VK), Post o (QP cm W true H' Q) (XPost cm E W H') → tl E H' Q) → Post (m o) (QP cm W true H Q) (XPost cm E W H) →
    codeAny (model P w) A (.call (.ref g) ⟨[.ref f], []⟩) (CR (L2.CX P w) outer P w H s Q E) s
def cLam (m : Out D → Out D) (fb : F) : F := fun r => m (fb r)
end DL

namespace DL
variable [Tbs]
open PySem L2
open PyProof.Rows (envOfC)
open LamX (CodeO TabB)
def finS : SO → Out D
  | .nx _ => .ok .non
  | .rt d _ => .ok d
  | .exn x _ => .exn x []
  | _ => .bad
def noV (r : Env) : Bool := r.all fun o => match o with
  | none => true
  | some .non => true
  | _ => false
def mKind (sub : Str → Option Bool) (N i j : Nat) (g0 g1 : FS) (o : Out D) : Out D := match g0 (List.replicate N none) with
  | .nx r1 => if noV r1 = true then (match o with
    | .ok _ => finS (g1 r1)
    | .exn x _ => match sub x.cls with
      | some true => if i < r1.length ∧ j < r1.length ∧ x.fs.length = x.ds.length then finS (g1 (((r1.set i none).set j (some (.exc x.cls x.fs x.ds))).set i none)) else .bad
      | _ => .bad
    | .bad => .bad) else .bad
  | _ => .bad
theorem Fun.cd {K : PySem.W.Frag} {x qual : Str} {st : Stmt} {f : Addr} {fd : FuncData} (F : Fun K x qual st f fd) : ∃ oc od kV doc pm an cdv ct osl, fd = PySem.W.fnOf x qual (defArgs st) (defBody st) (defScope st) .none kV doc pm an cdv ct ∧ fd.code = cdv ∧ K.lookup f = some ⟨oc, od, .func fd, osl⟩ ∧ PySem.W.codeIn K cdv qual = true := by
  obtain ⟨oc, od, kV, doc, pm, an, cdv, ct, osl, e, lk, hcd⟩ := F.ex
  exact ⟨oc, od, kV, doc, pm, an, cdv, ct, osl, e, by rw [e], lk, hcd⟩
end DL

set_option maxHeartbeats 4000000
namespace DL
section
variable [Tbs]
open PySem L2
open PyProof.Rows (envOfC)
end
open PySem L2 PySem.Spec PyProof.Rows
end DL

namespace DL
variable [Tbs]
open PySem L2
end DL

set_option maxHeartbeats 1000000
namespace DL
variable [Tbs]
open PySem PySem.Spec PyProof.Rows L2
section
variable {X : Cx} {kx vx tg iter : Expr} {ifs : List Expr} {sc : Scope} {own : List (Str × Nat)} {ps : Pos} {wi : TI} {g : TG} {tt : L2.TT} {tk tv : L2.TE}
end
end DL

namespace DL
variable [Tbs]
open PySem L2
def turnK (vs : List Nat) (g : D → Env → Out Env) (tt : Env → Out Bool) (fk fv : F) (r : Env) (d : D) : Out (Option (List Key × D)) :=
  (g d (wipeE r vs)).bind fun r2 => (tt r2).bind fun b => if b = true then (fk r2).bind fun kd => (match kd with
    | .tup es => (match keysD es with
      | some k => (fv r2).bind fun y => .ok (some (k, y))
      | none => .bad)
    | _ => .bad) else .ok none
section
variable {X : Cx} {cm : Cm} {E : XS} {pos : Pos} {tg : Expr}
end
end DL

namespace DL
variable [Tbs]
open PySem L2
mutual
def isFz : D → Bool
  | .lst o xs => !o && isFzs xs
  | .tup xs => isFzs xs
  | .dK o _ xs => !o && isFzs xs
  | .dT o _ xs => !o && isFzs xs
  | .dN o _ xs => !o && isFzs xs
  | .obj o _ _ xs => !o && isFzs xs
  | .exc _ _ xs => isFzs xs
  | _ => true
def isFzs : List D → Bool
  | [] => true
  | x :: xs => isFz x && isFzs xs
end
mutual
theorem Rep.fz {cm : Cm} {W : Addr → Prop} {H : Hp} : ∀ {v : V} {d : D} {fp : List Addr}, Rep cm W H v d fp → isFz d = true → fp = []
  | _, _, _, .non, _ => rfl
  | _, _, _, .bl _, _ => rfl
  | _, _, _, .int _, _ => rfl
  | _, _, _, .str _, _ => rfl
  | _, _, _, .lstO _ _, h => by simp [isFz] at h
  | _, _, _, .lstF _ _ _, _ => rfl
  | _, _, _, .tup _ _ r, h => Reps.fz r (by simpa [isFz] using h)
  | _, _, _, .dKO _ _ _, h => by simp [isFz] at h
  | _, _, _, .dKF _ _ _ _, _ => rfl
  | _, _, _, .dTO _ _ _, h => by simp [isFz] at h
  | _, _, _, .dTF _ _ _ _, _ => rfl
  | _, _, _, .dNO _ _ _ _, h => by simp [isFz] at h
  | _, _, _, .dNF _ _ _ _ _, _ => rfl
  | _, _, _, .objO _ _ _, h => by simp [isFz] at h
  | _, _, _, .objF _ _ _ _, _ => rfl
  | _, _, _, .scrF _ _, _ => rfl
  | _, _, _, .scrK _, _ => rfl
  | _, _, _, .exc _ _ _ _ _, _ => rfl
  | _, _, _, .any, _ => rfl
theorem Reps.fz {cm : Cm} {W : Addr → Prop} {H : Hp} : ∀ {v : List V} {d : List D} {fp : List Addr}, Reps cm W H v d fp → isFzs d = true → fp = []
  | _, _, _, .nil, _ => rfl
  | _, _, _, .cons h r, e => by
    simp only [isFzs, Bool.and_eq_true] at e
    rw [Rep.fz h e.1, Reps.fz r e.2]; rfl
end
section
variable {X : Cx} {cm : Cm} {E : XS} {pos : Pos} {e o : Expr} {f : FX}
def xFz (f : FX) : FX := fun r => (f r).bind fun p => .ok (frz p.1, p.2)
end
mutual
/-- no shared object with these fields within -/
def noOb (fs : List Str) : D → Bool
  | .lst _ xs => noObs fs xs
  | .tup xs => noObs fs xs
  | .dK _ _ xs => noObs fs xs
  | .dT _ _ xs => noObs fs xs
  | .dN _ _ xs => noObs fs xs
  | .obj _ _ gs xs => !decide (gs = fs) && noObs fs xs
  | .exc _ _ xs => noObs fs xs
  | .any => true
  | _ => true
def noObs (fs : List Str) : List D → Bool
  | [] => true
  | x :: xs => noOb fs x && noObs fs xs
end
theorem fst_zip {α β : Type} : ∀ {xs : List α} {ys : List β}, xs.length = ys.length → (xs.zip ys).map (·.1) = xs
  | [], [], _ => rfl
  | x :: xs, y :: ys, h => by rw [List.zip_cons_cons, List.map_cons, fst_zip (by simpa using h)]
section
variable {cm : Cm} {W : Addr → Prop} {H : Hp} {p0 C : Addr} {dx : Addr} {fs : List Str} {us : List V}
theorem ins_ne {gs : List Str} {vs : List V} {C' dx' : Addr} {p : Addr} (h0 : H p0 = some (.ins C dx (fs.zip us))) (hl : fs.length = us.length) (h : H p = some (.ins C' dx' (gs.zip vs))) (l : gs.length = vs.length) (n : ¬ gs = fs) : p ≠ p0 := fun z => by
  subst z
  rw [h0] at h
  have h := Option.some.inj h
  injection h with _ _ h
  have := congrArg (List.map (·.1)) h
  rw [fst_zip hl, fst_zip l] at this
  exact n this.symm
mutual
theorem Rep.more (h0 : H p0 = some (.ins C dx (fs.zip us))) (hl : fs.length = us.length) : ∀ {v : V} {d : D} {fp : List Addr}, Rep cm W H v d fp → noOb fs d = true → Rep cm (fun a => W a ∨ a = p0) H v d fp
  | _, _, _, .non, _ => .non
  | _, _, _, .bl b, _ => .bl b
  | _, _, _, .int i, _ => .int i
  | _, _, _, .str x, _ => .str x
  | _, _, _, .lstO h r, e => .lstO h (Reps.more h0 hl r (by simpa [noOb] using e))
  | _, _, _, .lstF h n r, e => .lstF h (fun z => z.elim n fun z => by rw [z, h0] at h; cases h) (Reps.more h0 hl r (by simpa [noOb] using e))
  | _, _, _, .tup h n r, e => .tup h (fun z => z.elim n fun z => by rw [z, h0] at h; cases h) (Reps.more h0 hl r (by simpa [noOb] using e))
  | _, _, _, .dKO h l r, e => .dKO h l (Reps.more h0 hl r (by simpa [noOb] using e))
  | _, _, _, .dKF h l n r, e => .dKF h l (fun z => z.elim n fun z => by rcases h with h | ⟨_, h⟩ <;> (rw [z, h0] at h; cases h)) (Reps.more h0 hl r (by simpa [noOb] using e))
  | _, _, _, .dTO h l r, e => .dTO h l (Reps.more h0 hl r (by simpa [noOb] using e))
  | _, _, _, .dTF h l n r, e => .dTF h l (fun z => z.elim n fun z => by rcases h with h | ⟨_, h⟩ <;> (rw [z, h0] at h; cases h)) (Reps.more h0 hl r (by simpa [noOb] using e))
  | _, _, _, .objO h l r, e => .objO h l (Reps.more h0 hl r (by simp [noOb] at e; exact e.2))
  | _, _, _, .objF (fs := gs) (ds := ds) h l n r, e => by
    have e : (¬ gs = fs) ∧ noObs fs ds = true := by simpa [noOb] using e
    exact .objF h l (fun z => z.elim n (ins_ne h0 hl h l.1 e.1)) (Reps.more h0 hl r e.2)
  | _, _, _, .scrF h n, e => .scrF h fun z => z.elim n fun z => by rw [z, h0] at h; cases h
  | _, _, _, .scrK h, e => .scrK h
  | _, _, _, .exc h n q l r, e => .exc h (fun z => z.elim n fun z => by rw [z, h0] at h; unfold ExK at h; cases h) (q.imp id fun ⟨a, h1, h2, h3⟩ => ⟨a, h1, h2, fun z => z.elim h3 fun z => by rw [z, h0] at h2; cases h2⟩) l (Reps.more h0 hl r (by simpa [noOb] using e))
  | _, _, _, .dNO h l k r, e => .dNO h l (fun x m => NK.wk (fun a o q n z => z.elim n fun z => by rw [z, h0] at q; cases q) (k x m)) (Reps.more h0 hl r (by simpa [noOb] using e))
  | _, _, _, .dNF h l n k r, e => .dNF h l (fun z => z.elim n fun z => by rw [z, h0] at h; cases h) (fun x m => NK.wk (fun a o q n z => z.elim n fun z => by rw [z, h0] at q; cases q) (k x m)) (Reps.more h0 hl r (by simpa [noOb] using e))
  | _, _, _, .any, _ => .any
theorem Reps.more (h0 : H p0 = some (.ins C dx (fs.zip us))) (hl : fs.length = us.length) : ∀ {v : List V} {d : List D} {fp : List Addr}, Reps cm W H v d fp → noObs fs d = true → Reps cm (fun a => W a ∨ a = p0) H v d fp
  | _, _, _, .nil, _ => .nil
  | _, _, _, .cons h r, e => by
    simp only [noObs, Bool.and_eq_true] at e
    exact .cons (Rep.more h0 hl h e.1) (Reps.more h0 hl r e.2)
end
end
section
variable {X : Cx} {cm : Cm} {E : XS} {e : Expr} {f : F}
end
end DL

namespace DL
open PySem PySem.Spec PyProof PyProof.Rows L2
section
variable [Tbs] {X : Cx} {cm : Cm} {E : XS} {b : Bool} {pos : Pos}
end
end DL

namespace DL
variable [Tbs]
open PySem L2
section
variable {X : Cx} {cm : Cm} {E : XS} {pos apos : Pos} {a : Expr}
end
end DL

namespace DL
variable [Tbs]
open PySem L2
section
variable {X : Cx} {cm : Cm} {E : XS} {pos apos : Pos} {a c e : Expr} {fa : F}
end
end DL

namespace DL
variable [Tbs]
open PySem L2
def xMv (i : Nat) : FX := fun r => match r[i]? with
  | some (some d) => .ok (d, r.set i (some .any))
  | _ => .bad
section
variable {X : Cx} {cm : Cm} {E : XS} {e : Expr}
theorem xe_mv (i : Nat) (hv : PE X e (tVar i)) : XE X cm E e (xMv i) := by
  refine ⟨_, hv, fun W0 H σ r fps gd Q hp => ?_⟩
  unfold xMv at hp
  split at hp
  · rename_i d hd
    obtain ⟨v, q1, q2⟩ := gd.sl i d hd
    refine ⟨v, q1, ?_⟩
    have hw : ∀ a, Wof (Wp W0 (fps i)) (fun k => if k = i then [] else fps k) a → Wof W0 fps a := fun a z => by
      rcases z with z | ⟨k, z⟩
      · rcases z with z | z
        · exact .inl z
        · exact .inr ⟨i, z⟩
      · simp only [] at z
        split at z
        · cases z
        · exact .inr ⟨k, z⟩
    refine hp v H (fun k => if k = i then [] else fps k) (fps i) ⟨by rw [List.length_set]; exact gd.len, ⟨fun a z => gd.wof.1 a (hw a (.inl z)), gd.w0.2⟩, fun j d' hj => ?_, fun j => ?_, fun j k a m1 m2 => ?_, fun j a m z => ?_, fun j a m => ?_⟩ (q2.move (fun a z => .inl (hw a z)) fun a o z _ _ => z) (gd.nd i) (fun a m => gd.nw i a m) ⟨fun a o z _ _ => z, fun j a m => ?_, fun a m => .inl ⟨i, m⟩, fun _ z => z, fun z => z⟩
    · by_cases hji : j = i
      · subst hji
        rw [List.getElem?_set_self (List.getElem?_eq_some_iff.mp hd).1] at hj
        cases hj
        rw [if_pos rfl]
        exact ⟨v, q1, .any⟩
      · rw [List.getElem?_set_ne (fun z => hji z.symm)] at hj
        obtain ⟨u, u1, u2⟩ := gd.sl j d' hj
        simp only [hji, if_false]
        exact ⟨u, u1, u2.move (fun a z => .inl (hw a z)) fun a o z _ _ => z⟩
    · split
      · exact List.nodup_nil
      · exact gd.nd j
    · split at m1
      · cases m1
      · split at m2
        · cases m2
        · exact gd.dj j k a m1 m2
    · split at m
      · cases m
      · rename_i hne
        rcases z with z | z
        · exact gd.nw j a m z
        · exact hne (gd.dj j i a m z)
    · split at m
      · cases m
      · exact gd.mu j a m
    · split at m
      · cases m
      · exact .inl ⟨j, m⟩
  · exact hp.elim
end
end DL

namespace DL
variable [Tbs]
open PySem L2
def ReprD (prog : Program) (w : World) (as : List Addr) (h₀ : Heap) (d n : Nat) (x : Value) (t : Str) : Prop :=
  ∀ base : Nat, base + t.length ≤ sizeLine → ∀ (A : Around) (g : List Code) (E : Value → Shared → Prop) (s : Shared) (Q : Str → Shared → Prop), A.guards = some g → (∀ b ∈ as, Clear g b) → A.units + d < cLine → A.depth + n < recursionLimit →
    (∀ b o, h₀.get? b = some o → s.heap.get? b = some o) → (∀ (h' : Heap) (tk : Nat), (∀ b o, s.heap.get? b = some o → h'.get? b = some o) → Q t { s with heap := h', toks := tk }) → wpAny (model prog w) A (pyReprUnder base x) Q E s
section
variable {prog : Program} {w : World} {as as' : List Addr} {h₀ : Heap} {d n d' n' : Nat} {x : Value} {t : Str}
theorem ReprD.more (h : ReprD prog w as h₀ d n x t) (ha : ∀ b ∈ as, b ∈ as') (hd : d ≤ d') (hn : n ≤ n') : ReprD prog w as' h₀ d' n' x t := fun base hb A g E s Q hg hc hu hv hk hQ => h base hb A g E s Q hg (fun b m => hc b (ha b m)) (by omega) (by omega) hk hQ
theorem depth_under_list (A : Around) (args : Args) : (A.under (.builtin "list.__repr__.loop" args)).depth = A.depth + 1 := by
  show A.depth + Code.weight _ = _
  rfl
theorem loopD {A : Around} {R : Result → Shared → Prop} {a P : Addr} (hne : a ≠ P) {items : Array Value} {ts : List Str} {base : Nat} {g : List Code} (hg : A.guards = some g) (hc : ∀ b ∈ as, Clear g b) (hu : A.units + (d + 1) < cLine) (hd : A.depth + (n + 1) < recursionLimit) (ha : a ∉ as) (hP : h₀.get? P = none) (hl : ts.length = items.size)
    (el : ∀ (i : Nat) (x : Value), items[i]? = some x → ∃ t, ts[i]? = some t ∧ ReprD prog w as h₀ d n x t) (hb : base + (listText ts).length ≤ sizeLine) :
    ∀ (k i : Nat) (s : Shared) (oa : Obj) (na : Nat) (acc : Array Value) (c : Nat) (done : List (Str × Tok)), items.size - i = k → i ≤ items.size → (∀ b o, h₀.get? b = some o → s.heap.get? b = some o) → s.heap.get? a = some oa → oa.data = .seq items na → s.heap.get? P = some { cls := .type "list", data := .seq acc c } →
      acc.toList = strValues done → done.map (fun x => x.1) = ts.take i → (∀ (h' : Heap) (u : Tok) (tk : Nat), (∀ b o, b ≠ P → s.heap.get? b = some o → h'.get? b = some o) → R (.ok (.ret (.str (listText ts) u))) { s with heap := h', toks := tk }) →
      codeAny (model prog w) A (.builtin "list.__repr__.loop" ⟨[.ref a, rawInt i, .ref P, rawInt ((base + piled (ts.take i) : Nat) : Int)], []⟩) R s := by
  intro k
  induction k with
  | zero =>
    intro i s oa na acc c done hk hi hs h1 h2 h3 h4 h5 hQ
    have hi2 : i = items.size := by omega
    refine codeAny_builtin F.entry_list_repr_loop ?_
    rw [show rawInt (i : Int) = Value.int i _ from rfl, show rawInt ((base + piled (ts.take i) : Nat) : Int) = Value.int _ _ from rfl, repr_loop_tree]
    refine wpAny_bind (wpAny_listItems h1 h2 ?_)
    have hn : items[(i : Int).toNat]? = none := by simp [hi2]
    rw [hn]
    unfold reprEnd
    refine wpAny_bind (wpAny_listItems h3 rfl ?_)
    have ht : ts.take i = ts := List.take_of_length_le (by omega)
    rw [h4, repr_fold, h5, ht]
    refine wpAny_bind (wpAny_pure ?_)
    unfold retStr
    refine wpAny_bind (wpAny_mkStr ?_ (by show (listText ts).length ≤ sizeLine; omega))
    have := hQ s.heap s.toks (s.toks + 1) (fun b o _ q => q)
    exact wpAny_pure this
  | succ k ih =>
    intro i s oa na acc c done hk hi hs h1 h2 h3 h4 h5 hQ
    obtain ⟨y, hy⟩ : ∃ y, items[i]? = some y := ⟨items[i]'(by omega), by simp⟩
    obtain ⟨t, ht, rt⟩ := el i y hy
    refine codeAny_builtin F.entry_list_repr_loop ?_
    rw [show rawInt (i : Int) = Value.int i _ from rfl, show rawInt ((base + piled (ts.take i) : Nat) : Int) = Value.int _ _ from rfl, repr_loop_tree]
    refine wpAny_bind (wpAny_listItems h1 h2 ?_)
    have hn : items[(i : Int).toNat]? = some y := by simpa using hy
    rw [hn]
    have hp1 := piled_take_succ ht
    have hp2 := piled_take_le ts (i + 1)
    have hp3 := piled_le_listText ts
    refine wpAny_bind (wpAny_holding ?_)
    refine rt _ ?_ _ (Code.builtin "list.__repr__.loop" ⟨[.ref a, rawInt i, .ref P, rawInt ((base + piled (ts.take i) : Nat) : Int)], []⟩ :: g) _ _ _ (guards_under_guard (isGuard_list_loop _) hg) (fun b m => Clear.cons (hc b m) fun e => ha (e ▸ m)) ?_ ?_ hs ?_
    · simp; omega
    · rw [units_under_list_loop]; omega
    · rw [depth_under_list]; omega
    · intro h' tk hk'
      refine wpAny_bind (wpAny_mkStr ?_ (by omega))
      have e3 := hk' P _ h3
      have hsz : acc.size = i := by
        have e := congrArg List.length h4
        have e2 := congrArg List.length h5
        simp [strValues] at e e2
        omega
      have hts := (textFrom_len ts 0 (Str.ofString "[")).1
      have hlt : (listText ts).length ≤ sizeLine := by omega
      have hlen : 2 * ts.length ≤ (listText ts).length + 2 := by
        unfold listText
        rw [strLen_append]
        simp at hts ⊢
        omega
      have hsl := sizeLine_eq
      refine wpAny_bind (wpAny_updateSeq e3 rfl ?_ (by omega) (by simp; omega))
      refine wpAny_pure ⟨F.quiet_list_repr_loop _, ?_⟩
      have e4 : base + piled (ts.take i) + (t.length + 2) = base + piled (ts.take (i + 1)) := by omega
      have e5 : (((base + piled (ts.take i) : Nat) : Int).toNat + (t.length + 2)) = base + piled (ts.take (i + 1)) := by simp; omega
      rw [e5, show ((i : Int) + 1) = ((i + 1 : Nat) : Int) by simp]
      obtain ⟨c', h3'⟩ : ∃ c', (h'.update P (Obj.mapSeq fun x => x.push (Value.str t tk))).get? P = some { cls := .type "list", data := .seq (acc.push (Value.str t tk)) c' } := by
        rw [Heap.get?_update_self _ e3 rfl]
        exact ⟨_, rfl⟩
      have up : ∀ b o, b ≠ P → s.heap.get? b = some o → (h'.update P (Obj.mapSeq fun x => x.push (Value.str t tk))).get? b = some o := fun b o hbp q => by
        rw [Heap.get?_update_other _ _ (Ne.symm hbp)]
        exact hk' b o q
      refine ih (i + 1) _ oa na (acc.push (Value.str t tk)) c' (done ++ [(t, tk)]) (by omega) (by omega) (fun b o q => up b o (fun z => by rw [z, hP] at q; cases q) (hs b o q)) (up _ _ hne h1) h2 h3' ?_ ?_ ?_
      · simp [h4, strValues]
      · rw [List.map_append, h5, List.take_add_one, ht]
        rfl
      · intro h2' u2 tk2 k2
        exact hQ h2' u2 tk2 fun b o hbp q => k2 b o hbp (up b o hbp q)
theorem list_reprAtD {A : Around} {g : List Code} {s : Shared} {R : Result → Shared → Prop} {base : Nat} {a : Addr} {oa : Obj} {x : Value} {l : List Value} {na : Nat} {ts : List Str} (h1 : h₀.get? a = some oa) (hdt : oa.data = .seq (x :: l).toArray na) (ha : a ∉ as) (hl : ts.length = (x :: l).toArray.size)
    (el : ∀ (i : Nat) (y : Value), (x :: l).toArray[i]? = some y → ∃ t, ts[i]? = some t ∧ ReprD prog w as h₀ d n y t) (hg : A.guards = some g) (hc : ∀ b ∈ a :: as, Clear g b) (hu : A.units + (d + 1) < cLine) (hd : A.depth + (n + 1) < recursionLimit) (hs : ∀ b o, h₀.get? b = some o → s.heap.get? b = some o)
    (hQ : ∀ (h' : Heap) (u : Tok) (tk : Nat), (∀ b o, s.heap.get? b = some o → h'.get? b = some o) → R (.ok (.ret (.str (listText ts) u))) { s with heap := h', toks := tk }) (hb : base + (listText ts).length ≤ sizeLine) :
    wpAny (model prog w) A.in1 (Builtin.listReprAt base ⟨[.ref a], []⟩) (fun fin s' => match fin with
      | .done f => R (.ok f) s'
      | .again c' => c'.quiet = true ∧ codeAny (model prog w) A c' R s') (fun e s' => R (.error e) s') s := by
  have hsz := Heap.lt_size h1
  refine wpAny_list_repr_head (g := g) hg (fun v rest kw m => listSameRef_of_ne (hc a (List.mem_cons_self ..) _ v rest kw m)) (hs a oa h1) hdt ?_
  refine wpAny_bind (wpAny_newObj_type ?_ (by show (#[] : Array Value).size ≤ sizeLine; simp))
  refine wpAny_pure ⟨F.quiet_list_repr_loop _, ?_⟩
  have hne : a ≠ s.heap.objs.size := Nat.ne_of_lt (Heap.lt_size (hs a oa h1))
  have hP : h₀.get? s.heap.objs.size = none := by
    cases q : h₀.get? s.heap.objs.size with
    | none => rfl
    | some o => exact absurd (Heap.lt_size (hs _ o q)) (Nat.lt_irrefl _)
  have := loopD (prog := prog) (w := w) (A := A) (R := R) hne (items := (x :: l).toArray) (base := base) hg (fun b m => hc b (List.mem_cons_of_mem _ m)) hu hd ha hP hl el hb (x :: l).toArray.size 0 { s with heap := s.heap.push { cls := .type "list", data := .seq #[] 0 } } oa na #[] 0 [] (by simp) (by simp) (fun b o q => Heap.get?_push_of_some _ (hs b o q)) (Heap.get?_push_of_some _ (hs a oa h1)) hdt (Heap.get?_push_size _ rfl) rfl rfl (fun h' u tk k => hQ h' u tk fun b o q => k b o (Nat.ne_of_lt (Heap.lt_size q)) (Heap.get?_push_of_some _ q))
  simpa [piled] using this
theorem ReprD.list {a : Addr} {oa : Obj} {x : Value} {l : List Value} {na : Nat} {ts : List Str} (h1 : h₀.get? a = some oa) (h2 : oa.cls = .type "list") (hdt : oa.data = .seq (x :: l).toArray na) (ha : a ∉ as) (hl : ts.length = (x :: l).toArray.size)
    (el : ∀ (i : Nat) (y : Value), (x :: l).toArray[i]? = some y → ∃ t, ts[i]? = some t ∧ ReprD prog w as h₀ d n y t) : ReprD prog w (a :: as) h₀ (d + 1) (n + 1) (.ref a) (listText ts) := by
  intro base hb A g E s Q hg hc hu hd hs hQ
  refine wpAny_pyReprUnder_ref (by omega) ?_
  have ty : s.TypeIs (.ref a) "list" := ⟨oa, hs a oa h1, h2⟩
  refine wpAny_pyReprObjUnder_twin ty F.slot_list_repr.toG rfl (by omega) ?_
  refine call_twin_plain (body := Builtin.listReprAt) F.plain_list_repr_under F.entry_list_repr_under F.check_list_repr_under ty F.slot_list_repr.toG (F.args_list_repr_1 _) ?_
  exact list_reprAtD h1 hdt ha hl el hg hc hu hd hs (fun h' u tk k => ⟨⟨_, _, rfl⟩, _, _, rfl, hQ h' tk k⟩) hb
inductive ReprAllD (prog : Program) (w : World) (as : List Addr) (h₀ : Heap) (d n : Nat) : List Value → List Str → Prop
  | nil : ReprAllD prog w as h₀ d n [] []
  | cons {x : Value} {t : Str} {l : List Value} {ts : List Str} : ReprD prog w as h₀ d n x t → ReprAllD prog w as h₀ d n l ts → ReprAllD prog w as h₀ d n (x :: l) (t :: ts)
theorem ReprAllD.len {l : List Value} {ts : List Str} (h : ReprAllD prog w as h₀ d n l ts) : ts.length = l.length := by
  induction h with
  | nil => rfl
  | cons _ _ ih => simp [ih]
theorem ReprAllD.at {l : List Value} {ts : List Str} (h : ReprAllD prog w as h₀ d n l ts) : ∀ (i : Nat) (y : Value), l[i]? = some y → ∃ t, ts[i]? = some t ∧ ReprD prog w as h₀ d n y t := by
  induction h with
  | nil => intro i y h; simp at h
  | cons r _ ih =>
    intro i y h
    cases i with
    | zero => simp at h; subst h; exact ⟨_, rfl, r⟩
    | succ i => simpa using ih i y (by simpa using h)
theorem ReprAllD.more {l : List Value} {ts : List Str} (h : ReprAllD prog w as h₀ d n l ts) (ha : ∀ b ∈ as, b ∈ as') (hd : d ≤ d') (hn : n ≤ n') : ReprAllD prog w as' h₀ d' n' l ts := by
  induction h with
  | nil => exact .nil
  | cons r _ ih => exact .cons (r.more ha hd hn) ih
theorem tupFoldD {A : Around} {E : Value → Shared → Prop} {g : List Code} (hg : A.guards = some g) (hc : ∀ b ∈ as, Clear g b) (hu : A.units + d < cLine) (hd : A.depth + n < recursionLimit) : ∀ (l : List Value) (ts : List Str) (acc : Array Str) (m : Nat) (s : Shared) (Q : Array Str × Nat → Shared → Prop), ReprAllD prog w as h₀ d n l ts → m + piled ts ≤ sizeLine → (∀ b o, h₀.get? b = some o → s.heap.get? b = some o) →
    (∀ (h' : Heap) (tk : Nat), (∀ b o, s.heap.get? b = some o → h'.get? b = some o) → Q (acc ++ ts.toArray, m + piled ts) { s with heap := h', toks := tk }) → wpAny (model prog w) A (forIn l (acc, m) tupBody) Q E s := by
  intro l
  induction l with
  | nil =>
    intro ts acc m s Q r hm hs hQ
    cases r
    have := hQ s.heap s.toks fun b o q => q
    refine wpAny_pure ?_
    simpa [piled] using this
  | cons y l ih =>
    intro ts acc m s Q r hm hs hQ
    cases r with
    | cons r0 r =>
      rename_i t ts
      rw [piled_cons] at hm
      rw [List.forIn_cons]
      unfold tupBody
      refine wpAny_bind (wpAny_bind (r0 _ (by simp; omega) A g _ s _ hg hc hu hd hs fun h' tk k => wpAny_pure ?_))
      refine ih ts _ _ _ Q r (by simp; omega) (fun b o q => k b o (hs b o q)) fun h2 tk2 k2 => ?_
      have := hQ h2 tk2 fun b o q => k2 b o (k b o q)
      rw [piled_cons] at this
      have e1 : acc.push t ++ ts.toArray = acc ++ (t :: ts).toArray := by simp
      rw [e1]
      have e2 : m + (t.length + 2) + piled ts = m + (t.length + 2 + piled ts) := by omega
      simpa [e2] using this
theorem depth_under_tup (A : Around) (args : Args) : (A.under (.builtin "tuple.__repr__.under" args)).depth = A.depth + 1 := by
  show A.depth + Code.weight _ = _
  rfl
theorem tuple_reprAtD {A : Around} {g : List Code} {s : Shared} {R : Result → Shared → Prop} {base : Nat} {id : String} {rest : List Value} {a : Addr} {o : Obj} {items : Array Value} {na : Nat} {ts : List Str} (h1 : h₀.get? a = some o) (hdt : o.data = .seq items na) (ha : a ∉ as) (el : ReprAllD prog w as h₀ d n items.toList ts)
    (hi : (Code.builtin id ⟨.ref a :: rest, []⟩).isGuard = true) (hi2 : (A.under (.builtin id ⟨.ref a :: rest, []⟩)).units = A.units + 1) (hi3 : (A.under (.builtin id ⟨.ref a :: rest, []⟩)).depth = A.depth + 1) (hg : A.guards = some g) (hc : ∀ b ∈ a :: as, Clear g b) (hu : A.units + (d + 1) < cLine) (hd : A.depth + (n + 1) < recursionLimit) (hs : ∀ b o, h₀.get? b = some o → s.heap.get? b = some o)
    (hQ : ∀ (h' : Heap) (u : Tok) (tk : Nat), (∀ b o, s.heap.get? b = some o → h'.get? b = some o) → R (.ok (.ret (.str (tupleText ts) u))) { s with heap := h', toks := tk }) (hb : base + (tupleText ts).length ≤ sizeLine) :
    wpOwn (model prog w) A (.builtin id ⟨.ref a :: rest, []⟩) (Builtin.tupleReprAt base ⟨[.ref a], []⟩) (fun fin s' => match fin with
      | .done f => R (.ok f) s'
      | .again c' => c'.quiet = true ∧ codeAny (model prog w) A c' R s') (fun e s' => R (.error e) s') s := by
  have hp3 := piled_le_tupleText ts
  rw [tuple_repr_tree, tupleReprUnderWay_eq]
  refine wpOwn_bind (wpOwn_stackTailAny hg (tupGuardF_off _) (tupGuardF_pos _) ?_)
  have hz : (g.any fun c => tupGuardF (.ref a) (c, default)) = false := by
    rw [List.any_eq_false]
    intro c m
    rw [tupGuardF_of_clear (hc a (List.mem_cons_self ..)) c m]
    simp
  rw [hz, if_neg (by simp)]
  refine wpOwn_of_wpAny ?_
  unfold tupleReprRest Builtin.Tuple.tupleItemsOf
  refine wpAny_bind (wpAny_bind (wpAny_seqItems (hs a o h1) hdt (wpAny_pure ?_)))
  rw [← Array.forIn_toList]
  refine wpAny_bind (tupFoldD (guards_under_guard hi hg) (fun b m => Clear.cons (hc b (List.mem_cons_of_mem _ m)) fun e => ha (e ▸ m)) (by rw [hi2]; omega) (by rw [hi3]; omega) _ _ _ _ _ _ el (by omega) hs fun h' tk k => ?_)
  unfold retStr
  have hl := el.len
  have et : Str.ofString "(" ++ (Str.ofString ", ").join ((#[] : Array Str) ++ ts.toArray).toList ++ Str.ofString (if (items.size == 1) = true then ",)" else ")") = tupleText ts := by
    unfold tupleText
    have : ts.length = items.size := by simpa using hl
    rw [this]
    simp
  simp only [et]
  exact wpAny_bind (wpAny_mkStr (wpAny_pure (hQ h' tk (tk + 1) k)) (by omega))
theorem ReprD.tuple {a : Addr} {o : Obj} {items : Array Value} {na : Nat} {ts : List Str} (h1 : h₀.get? a = some o) (h2 : o.cls = .type "tuple") (hdt : o.data = .seq items na) (ha : a ∉ as) (el : ReprAllD prog w as h₀ d n items.toList ts) : ReprD prog w (a :: as) h₀ (d + 1) (n + 1) (.ref a) (tupleText ts) := by
  intro base hb A g E s Q hg hc hu hd hs hQ
  refine wpAny_pyReprUnder_ref (by omega) ?_
  have ty : s.TypeIs (.ref a) "tuple" := ⟨o, hs a o h1, h2⟩
  refine wpAny_pyReprObjUnder_twin ty F.slot_tuple_repr rfl (by omega) ?_
  refine call_twin_own (body := Builtin.tupleReprAt) (F.quiet_tuple_repr_under _) F.entry_tuple_repr_under F.check_tuple_repr_under ty F.slot_tuple_repr (F.args_tuple_repr_1 _) ?_
  exact tuple_reprAtD h1 hdt ha el (isGuard_tuple_repr_under _) (units_under_tuple_repr_under _ _) (depth_under_tup _ _) hg hc hu hd hs (fun h' u tk k => ⟨⟨_, _, rfl⟩, _, _, rfl, hQ h' tk k⟩) hb
open PyProof.Rows (envOfC)
end
end DL

namespace DL
variable [Tbs]
open PySem L2
section
variable {cm : Cm} {W W' : Addr → Prop} {H : Hp}
end
structure ReprFn (K : PySem.W.Frag) (C : Addr) : Prop where
  ex : ∃ (f : Addr) (fd : FuncData) (qual : Str) (st : Stmt) (q1 q2 q3 q4 q5 q6 q7 q8 q9 q10 q11 : Pos) (k1 k2 k3 : Nat), L2.Meth K C "__repr__" f ∧ L2.Fun K "__repr__" qual st f fd ∧ L2.FnScope ["self"] ["self"] (defScope st) ∧ (defScope st).names.lookup ("self" : Str) = some NameKind.local ∧ L2.Binds K fd ["self"] [] ∧
    defBody st = [.Return (some (.JoinedStr [.Constant (.str "Heads(") k1 q1, .FormattedValue (.Attribute (.Name "self" q2) "own_width" q3) (-1) none q4, .Constant (.str ", ") k2 q5, .FormattedValue (.Attribute (.Name "self" q6) "told" q7) (-1) none q8, .Constant (.str ")") k3 q9] q10)) q11]
section
variable {X : Cx} {cm : Cm} {pins : List (Addr × Obj)} {σ : St} {H : Hp} {s : Shared} {W : Addr → Prop}
end
end DL

namespace DL
variable [Tbs]
open PySem L2
section
variable {X : Cx} {cm : Cm} {E : XS} {b : Bool} {pos p : Pos} {a c : Expr}
end
end DL

namespace DL
variable [Tbs]
open PySem L2
section
variable {X : Cx} {cm : Cm} {E : XS} {pos p : Pos} {o : Expr}
end
end DL

namespace DL
variable [Tbs]
open PySem L2
section
variable {X : Cx} {cm : Cm} {E : XS} {b : Bool} {pos : Pos} {a c : Expr} {fa fb : F}
end
end DL

namespace DL
variable [Tbs]
open PySem L2
section
variable {X : Cx} {cm : Cm} {E : XS} {b : Bool} {pos : Pos} {a c tg : Expr} {fa fb : F}
end
end DL

namespace DL
variable [Tbs]
open PySem L2
section
variable {X : Cx} {cm : Cm} {E : XS} {pos : Pos} {a e : Expr} {f : FX}
end
structure KTab (K : PySem.W.Frag) (w : World) (mg : Str → Option Value) (x : Str) (tab : List (List Nat × Int)) : Prop where
  ex : ∃ p es n, mg x = some (.ref p) ∧ KDict K w p es n ∧ ∀ c ∈ tab, ∃ t, PySem.W.nsIn K p ⟨c.1.toArray⟩ = some (some (.int c.2 t))
section
variable {X : Cx} {cm : Cm} {E : XS} {b : Bool} {pos p2 : Pos} {a : Expr} {fa : F} {x : Str} {tab : List (List Nat × Int)}
end
end DL

namespace DL
variable [Tbs]
open PySem L2
section
variable {X : Cx} {cm : Cm} {E : XS} {b : Bool} {pos : Pos}
end
end DL

namespace DL
variable [Tbs]
open PySem L2
section
variable {X : Cx} {cm : Cm} {E : XS} {b : Bool} {pos : Pos} {a c : Expr} {fa fb : F}
end
end DL

namespace DL
variable [Tbs]
open PySem L2
section
variable {X : Cx} {cm : Cm} {E : XS} {pos apos : Pos} {a e : Expr}
end
end DL

namespace DL
variable [Tbs]
open PySem L2
theorem walk_lawE {l : PySem.W.OpenLaw} {q : Program} {loose : List Str} {XP : (Str → Option Value) → Heap → Prop} {YP : World → Heap → Prop} {d : DefRec} {k : Nat} {x : Str} (hk : k ≤ 200) (hn : l.most = some 63) (hdf : d.params.defaults = [])
    (F : ∀ (w : World) (mg : Str → Option Value) (fa : Addr) (h : Heap), YP w h → h.Ns mainGlobals mg → mg d.name = some (.ref fa) →
      ∃ K : PySem.W.Frag, K.In h ∧ ∃ fd : FuncData, (∀ (s : Shared) (u : Value), BindsTo s fd ⟨[u], []⟩ [(x, u)]) ∧ ∀ base : Heap, K.In base → base.Ns mainGlobals mg → FnG l.prog w K mg base k fa fd [x] (spLaw K)) :
    PySem.W.WalkO q loose XP YP l.row.toRowW d [] (fun f vs => PySem.call f vs) := by
  apply Att.attach_call hn hdf
  intro w s₀ s₁ mg mb fa o pm cd doc a vs ns G Y _ _ _ hmg hobj hints hlen hg
  obtain ⟨K, KX, fd, b, f⟩ := F w mg fa _ Y G.T.g hmg
  exact law_go hk KX G.T.g G.T.b G.T.builtins G.T.nolimit hg hobj hints hlen f b
section
variable {K : PySem.W.Frag} {nm ql : Str} {ps : Arguments} {bd : List Stmt} {sc : Scope} {f : Addr}
theorem def0 (h : ∃ fd, FunD K nm ql ps bd sc [] [] f fd) : ∃ (oc : Value) (od : Option Addr) (osl : Array (Option Value)) (kV doc pm : Value) (an : Option Addr) (cdv ct : Value), K.lookup f = some ⟨oc, od, .func (PySem.W.fnOf nm ql ps bd sc .none kV doc pm an cdv ct), osl⟩ ∧ PySem.W.codeIn K cdv ql = true ∧ PySem.W.keepIn K (.ref f) = true := by
  obtain ⟨fd, F⟩ := h
  obtain ⟨oc, od, dV, kV, doc, pm, an, cdv, ct, osl, e, l, c, hd, _⟩ := F.ex
  rcases hd with ⟨_, e2⟩ | ⟨e2, _⟩
  · subst e2
    subst e
    exact ⟨oc, od, osl, kV, doc, pm, an, cdv, ct, l, c, F.kp⟩
  · exact absurd rfl e2
end
end DL

namespace DL
variable [Tbs]
open PySem L2
abbrev HashN (w : World) : Prop := ∀ k, Tbs.hN k = NestedKey.hash w k
section
variable {P : Program} {w : World} {W : Addr → Prop} {H : Hp} {h : Heap}
mutual
theorem NK.is (ok : HOk P w H h) : ∀ {k : NestedKey} {v : V} {u : Value}, NK W H k v → RelV v u → NestedIs h k u
  | _, _, u, .num i, r => by
    obtain ⟨t, rfl⟩ := (show ∃ t, u = Value.int i t from r)
    exact .int i t
  | _, _, u, .text x, r => by
    obtain ⟨t, rfl⟩ := (show ∃ t, u = Value.str x t from r)
    exact .text x t
  | _, _, u, .none, r => by
    cases (show u = Value.none from r)
    exact .none
  | _, _, u, .tup (p := p) (vs := vs) e n ks, r => by
    cases (show u = Value.ref p from r)
    obtain ⟨z, its, rv, o, h1, h2, m, h3⟩ := (show ObjOk P w H h p (.tup vs) from ok _ _ e)
    exact .tup h1 h2 h3 (by simpa using NKs.is ok ks rv)
theorem NKs.is (ok : HOk P w H h) : ∀ {ks : List NestedKey} {vs : List V} {us : List Value}, NKs W H ks vs → Vals vs us → NestedAll h ks us
  | _, _, _, .nil, r => by cases r; exact .nil
  | _, _, _, .cons k ks, r => by
    cases r with
    | cons r1 r2 => exact .cons (NK.is ok k r1) (NKs.is ok ks r2)
end
structure NdAt (W : Addr → Prop) (H : Hp) (a : Addr) (xs : List NEnt) : Prop where
  ex : ∃ o, H a = some (ndH a o) ∧ NdO xs o
  sm : (a == sysModules) = false
  ks : ∀ x ∈ xs, NK W H x.1 (.ref x.2.1)
theorem NdAt.dict {a : Addr} {xs : List NEnt} (ok : HOk P w H h) (n : NdAt W H a xs) (hw : HashN w) : h.DictOfH (nestedKind P w) a xs := by
  obtain ⟨o, e, ⟨ex, dp⟩, nd, es, ep, hd, he⟩ := n.ex
  obtain ⟨φ, _, _⟩ := (show ObjOk P w H h a (ndH a o) from ok a _ e)
  refine ⟨o, es, ep, φ, ex, hd, ?_, fun x m => ⟨(n.ks x m).is ok rfl, dp x m⟩, nd⟩
  rw [he]
  refine List.map_congr_left fun x _ => ?_
  unfold entryOfKey
  rw [hw]
  rfl
end
section
variable {X : Cx} {pins : List (Addr × Obj)} {σ : St} {H : Hp} {s : Shared} {a b : Addr} {A : Around} {E : Value → Shared → Prop} {W : Addr → Prop} {xs : List NEnt} {k : NestedKey}
end
section
variable {X : Cx} {o i value : Expr} {pos pos' : Pos} {td ty tv : TE}
def nd0 : Obj := { cls := .type "dict", data := .dict #[] }
end
end DL

namespace DL
variable [Tbs]
open PySem L2
section
variable {cm : Cm} {W : Addr → Prop} {H : Hp}
end
end DL

namespace DL
variable [Tbs]
open PySem L2
section
variable {X : Cx} {cm : Cm} {E : XS} {b : Bool} {pos : Pos} {a c : Expr} {fa fb : F}
end
end DL

namespace DL
variable [Tbs]
open PySem L2
section
variable {X : Cx} {cm : Cm} {E : XS} {b : Bool} {pos : Pos} {a c : Expr} {fa fb : F}
end
end DL

namespace DL
variable [Tbs]
open PySem PySem.Spec PyProof.Rows L2
section
variable {P : Program} {w : World} {K : PySem.W.Frag} {tg : Expr} {d : Addr} {o : Obj} {xs : List NEnt} {es : Array DictEntry} {ep : Nat}
end
section
variable {cm : Cm} {W : Addr → Prop} {H : Hp}
end
end DL

namespace DL
variable [Tbs]
open PySem L2
def gLenN : D → Out D
  | .dN _ ks _ => if ks.length ≤ 1000000 then .ok (.int ks.length) else .bad
  | _ => .bad
section
variable {X : Cx} {cm : Cm} {E : XS} {b : Bool} {pos : Pos}
end
end DL

namespace DL
variable [Tbs]
open PySem L2 L2.DX PySem.Spec
section
variable {X : Cx} {W : Addr → Prop}
end
section
variable {cm : Cm} {W : Addr → Prop} {H : Hp}
end
section
variable {X : Cx} {cm : Cm} {E : XS} {b : Bool} {pos p p2 q : Pos} {a : Expr} {fa : F}
end
end DL

namespace DL
open PySem L2
abbrev IsZipS (h : Heap) (z TI TO : Addr) (f0 f1 : Value) : Prop :=
  h.get? z = some { cls := .type "zip", dict := none, data := .fields #[f0, f1, .bool true, .ref TI, .ref TO], slots := #[] }
section
variable {prog : Program} {w : World} {A : Around} {E : Value → Shared → Prop} {s : Shared}
end
end DL

namespace DL
open PySem L2
section
variable {prog : Program} {w : World} {A : Around} {E : Value → Shared → Prop} {s : Shared}
end
end DL

namespace DL
open PySem L2
structure ZSt (z TI TO i1 i2 l1 l2 S : Addr) (xs ys : Array Value) (i : Nat) (h : Heap) : Prop where
  zf : (i = 0 ∧ IsZipS h z TI TO .none (.bool false) ∧ IsPair h TO .none .none) ∨ ∃ (T : Addr) (oT : Obj) (f : Bool), IsZipS h z TI TO (rawInt T) (.bool f) ∧ h.get? T = some oT ∧ T ≠ z ∧ T ≠ TO ∧ T ≠ i1 ∧ T ≠ i2 ∧ T ≠ S
  ti : IsPair h TI (.ref i1) (.ref i2)
  h1 : h.IsListIter i1 l1 i
  h2 : h.IsListIter i2 l2 i
  hl1 : h.IsList l1 xs
  hl2 : h.IsList l2 ys
structure ZAp (z TI TO i1 i2 l1 l2 S : Addr) : Prop extends ZipApart z TI TO i1 i2 l1 l2 where
  Sz : S ≠ z
  STI : S ≠ TI
  STO : S ≠ TO
  Si1 : S ≠ i1
  Si2 : S ≠ i2
  Sl1 : S ≠ l1
  Sl2 : S ≠ l2
section
variable {z TI TO i1 i2 l1 l2 S : Addr} {xs ys : Array Value} {i : Nat} {h h' : Heap}
theorem ZSt.keep (D : ZAp z TI TO i1 i2 l1 l2 S) (st : ZSt z TI TO i1 i2 l1 l2 S xs ys i h) (up : ∀ b o, b ≠ S → h.get? b = some o → h'.get? b = some o) : ZSt z TI TO i1 i2 l1 l2 S xs ys i h' where
  zf := by
    rcases st.zf with ⟨a, b, c⟩ | ⟨T, oT, f, a, b, c1, c2, c3, c4, c5⟩
    · exact .inl ⟨a, up _ _ D.Sz.symm b, up _ _ D.STO.symm c⟩
    · exact .inr ⟨T, oT, f, up _ _ D.Sz.symm a, up _ _ c5 b, c1, c2, c3, c4, c5⟩
  ti := up _ _ D.STI.symm st.ti
  h1 := st.h1.at fun o e => up _ o D.Si1.symm e
  h2 := st.h2.at fun o e => up _ o D.Si2.symm e
  hl1 := st.hl1.at fun o e => up _ o D.Sl1.symm e
  hl2 := st.hl2.at fun o e => up _ o D.Sl2.symm e
end
section
variable {prog : Program} {w : World} {A : Around} {E : Value → Shared → Prop} {s : Shared} {z TI TO i1 i2 l1 l2 S : Addr} {xs ys : Array Value} {i : Nat}
end
structure MadeZ (xs ys : Array Value) (lo : Addr) (h : Heap) (as : List Addr) : Prop where
  rise : as.Pairwise (· < ·)
  above : ∀ a ∈ as, lo < a
  pairs : ∀ (j : Nat) (a : Addr), as[j]? = some a → ∃ x y, xs[j]? = some x ∧ ys[j]? = some y ∧ IsPair h a x y
theorem MadeZ.there {xs ys : Array Value} {lo : Addr} {h : Heap} {as : List Addr} (g : MadeZ xs ys lo h as) {a : Addr} (ha : a ∈ as) : a < h.objs.size := by
  obtain ⟨j, hj⟩ := List.mem_iff_getElem?.mp ha
  obtain ⟨_, _, _, _, e⟩ := g.pairs j a hj
  exact Heap.lt_size e
section
variable {prog : Program} {w : World} {A : Around} {s : Shared} {R : Result → Shared → Prop} {TI TO i1 i2 l1 l2 : Addr} {xs ys : Array Value}
end
section
variable {prog : Program} {w : World} {A : Around} {E : Value → Shared → Prop} {s : Shared} {z TI TO i1 i2 l1 l2 : Addr} {xs ys : Array Value}
theorem ZSt.ty {S : Addr} {i : Nat} (st : ZSt z TI TO i1 i2 l1 l2 S xs ys i s.heap) : s.TypeIs (.ref z) "zip" := by
  rcases st.zf with ⟨_, hz, _⟩ | ⟨_, _, _, hz, _⟩
  · exact ⟨_, hz, rfl⟩
  · exact ⟨_, hz, rfl⟩
end
end DL

namespace DL
variable [Tbs]
open PySem L2 L2.DX PySem.Spec
section
variable {M : Model} {A : Around} {E : Value → Shared → Prop} {s : Shared}
end
section
variable {X : Cx}
end
end DL

namespace DL
variable [Tbs]
open PySem L2
section
variable {cm : Cm} {W : Addr → Prop} {H : Hp}
end
section
variable {X : Cx} {cm : Cm} {E : XS} {W0 : Addr → Prop} {H : Hp} {σ : L2.St} {fps : Fps}
end
end DL

namespace DL
variable [Tbs]
open PySem L2
section
variable {X : Cx} {cm : Cm} {E : XS}
end
end DL

namespace DL
variable [Tbs]
open PySem L2 PyProof.Rows
section
variable {prog : Program} {w : World} {A : Around} {E : Value → Shared → Prop} {s : Shared} {d : Addr} {es : Array DictEntry} {ep : Nat}
end
end DL

namespace DL
variable [Tbs]
open PySem L2 PyProof.Rows
section
variable {X : Cx}
end
end DL

namespace DL
variable [Tbs]
open PySem L2
section
variable {X : Cx} {cm : Cm} {E : XS}
end
end DL

namespace DL
variable [Tbs]
open PySem L2
section
variable {X : Cx} {cm : Cm} {E : XS} {pos : Pos} {tg : Expr}
end
end DL

namespace DL
variable [Tbs]
open PySem L2
theorem RoomG.u10 {k : Nat} {A : Around} (r : RoomG k A) : A.units + 10 < cLine := Nat.lt_of_le_of_lt (by omega) r.units
end DL

namespace DL
variable [Tbs]
open PySem L2 PySem.Spec
section
variable {cm : Cm} {W : Addr → Prop} {H : Hp}
end
end DL

namespace DL
variable [Tbs]
open PySem L2 PySem.Spec
section
variable {X : Cx} {cm : Cm} {E : XS} {k n : Nat} {c : Str} {ps : List Str} {mm : List D → Out D}
end
end DL

namespace DL
variable [Tbs]
open PySem L2 PySem.Spec
section
variable {X : Cx} {cm : Cm} {E : XS} {k n : Nat} {c : Str} {ps : List Str} {mm : List D → Out D}
end
section
variable {cm : Cm} {b : Bool} {c : Str} {mm : List D → Out D}
end
end DL

namespace DL
variable [Tbs]
open PySem L2
def unS : D → D := fun d => if shr d = true then .any else d
def mixF (p : Nat → Bool) : Nat → Env → Env → Env
  | k, o :: r, o' :: r' => (if p k = true then o'.map unS else o) :: mixF p (k + 1) r r'
  | _, _, _ => []
section
variable {X : Cx} {cm : Cm} {E : XS} {W0 : Addr → Prop} {H H' : Hp} {σ σ' : St} {r r' : Env} {fps f' : Fps}
end
end DL

namespace DL
variable [Tbs]
open PySem L2
def getAK {α : Type} (k : Key) : List Key → List α → Option α
  | g :: gs, d :: ds => if g = k then some d else getAK k gs ds
  | _, _ => none
instance memK1 (k : Key) (ks : List Key) : Decidable (k ∈ ks) := if h : (ks.any fun g => decide (g = k)) = true then .isTrue (by
  obtain ⟨g, m, e⟩ := List.any_eq_true.mp h
  rw [decide_eq_true_eq] at e
  exact e ▸ m) else .isFalse fun m => h (List.any_eq_true.mpr ⟨k, m, by simp⟩)
section
variable {cm : Cm} {W : Addr → Prop} {H : Hp}
end
end DL

namespace DL
variable [Tbs]
open PySem L2
section
variable {X : Cx} {cm : Cm} {E : XS} {b : Bool} {pos : Pos} {a c : Expr} {fa fb : F}
def gKG : D → D → Out D := fun d kd => match d with
  | .dK _ ks xs => (match keyD kd with
    | some k => (match getAK k ks xs with
      | some x => .ok x
      | none => .bad)
    | none => .bad)
  | _ => .bad
end
section
variable {X : Cx} {cm : Cm} {E : XS} {b : Bool} {pos : Pos} {a c : Expr} {fa fb : F}
end
end DL

namespace DL
variable [Tbs]
open PySem L2
section
variable {X : Cx} {cm : Cm} {E : XS} {b : Bool} {pos : Pos} {a c : Expr} {fa fb : F}
end
end DL

namespace DL
variable [Tbs]
open PySem L2
def SwpK (H H' : Hp) (d : Addr) (kvs : List (Key × V)) : Prop := (∀ a, a ≠ d → H' a = H a) ∧ ∃ od, (H d = some (.dK kvs) ∧ H' d = some (.frz od (.dK kvs))) ∨ (H d = some (.frz od (.dK kvs)) ∧ H' d = some (.dK kvs))
section
variable {cm : Cm} {W : Addr → Prop} {H H' : Hp} {d : Addr} {kvs : List (Key × V)}
theorem SwpK.at0 {a : Addr} {o : HO} (s : SwpK H H' d kvs) (h : H a = some o) (n1 : o ≠ .dK kvs) (n2 : ∀ od, o ≠ .frz od (.dK kvs)) : H' a = some o := by
  rw [s.1 a]
  · exact h
  · rintro rfl
    obtain ⟨od, ⟨q, _⟩ | ⟨q, _⟩⟩ := s.2
    · rw [h] at q; exact n1 (Option.some.inj q)
    · rw [h] at q; exact n2 od (Option.some.inj q)
def isDK : HO → Bool
  | .dK _ => true
  | .frz _ (.dK _) => true
  | _ => false
theorem SwpK.at {a : Addr} {o : HO} (s : SwpK H H' d kvs) (h : H a = some o) (n : isDK o = false) : H' a = some o := s.at0 h (fun z => by rw [z] at n; cases n) fun od z => by rw [z] at n; cases n
theorem SwpK.tb {T : List (Addr × Str)} (s : SwpK H H' d kvs) (t : LamX.Tabs T H) : LamX.Tabs T H' := fun q hq => by
  obtain ⟨ps, h1, h2, h3⟩ := t q hq
  refine ⟨ps, s.at h1 rfl, h2, fun pos cv hc => ?_⟩
  obtain ⟨c, e1, e2⟩ := h3 pos cv hc
  exact ⟨c, e1, s.at e2 rfl⟩
theorem SwpK.off {a : Addr} {o : HO} (s : SwpK H H' d kvs) (h : H a = some o) (n : d ≠ a) : H' a = some o := (s.1 a (Ne.symm n)).trans h
theorem SwpK.rd {p : Addr} {k2 : List (Key × V)} (s : SwpK H H' d kvs) (h : Rd H p (.dK k2)) : Rd H' p (.dK k2) := by
  by_cases e : p = d
  · obtain ⟨od, ⟨q, q'⟩ | ⟨q, q'⟩⟩ := s.2
    · rw [← e] at q q'
      rcases h with h | ⟨o, h⟩
      · rw [h] at q; cases q; exact .inr ⟨od, q'⟩
      · rw [h] at q; cases q
    · rw [← e] at q q'
      rcases h with h | ⟨o, h⟩
      · rw [h] at q; cases q
      · rw [h] at q; cases q; exact .inl q'
  · exact h.imp (fun h => (s.1 p e).trans h) fun ⟨o, h⟩ => ⟨o, (s.1 p e).trans h⟩
end
end DL

namespace DL
variable [Tbs]
open PySem L2
section
variable {cm : Cm} {W : Addr → Prop} {H : Hp}
end
section
variable {X : Cx} {cm : Cm} {E : XS} {pos : Pos} {ks0 : Nat → Bool} {tg : Expr} {g : FS}
end
section
variable {X : Cx} {cm : Cm} {E : XS} {b : Bool} {pos : Pos} {a c tg : Expr} {fa fb : F}
end
end DL

namespace DL
variable [Tbs]
open PySem L2
section
variable {X : Cx} {cm : Cm} {E : XS} {b : Bool} {pos p : Pos} {a c : Expr}
end
end DL

namespace DL
variable [Tbs]
open PySem L2
section
variable {X : Cx} {ke ve : Expr} {pos : Pos} {tk tv : TE}
end
section
variable {X : Cx} {cm : Cm} {E : XS} {pos : Pos} {ke ve : Expr} {fa fb : F}
end
end DL

namespace DL
variable [Tbs]
open PySem L2
section
variable {X : Cx} {cm : Cm} {E : XS} {b : Bool} {pos : Pos} {ks : Nat → Bool} {a c tg : Expr} {fa fb : F}
end
end DL

namespace DL
variable [Tbs]
open PySem L2
section
variable {cm : Cm} {W : Addr → Prop} {H : Hp}
end
section
variable {cm : Cm} {E : XS} {ks : Nat → Bool} {g : FS}
end
section
variable {X : Cx} {cm : Cm} {E : XS} {pos : Pos} {ks0 : Nat → Bool} {tg : Expr} {g : FS}
end
end DL

namespace DL
variable [Tbs]
open PySem L2
def gStr2 : D → Out D
  | .str cs => .ok (.str cs)
  | .int i => if 0 ≤ i ∧ i.toNat ≤ 1000000 then .ok (.str (TL.numL i.toNat)) else .bad
  | .non => .ok (.str [78, 111, 110, 101])
  | _ => .bad
theorem noEx_str2 : ∀ d x r, gStr2 d ≠ .exn x r := fun d x r h => by
  unfold gStr2 at h
  split at h
  · cases h
  · split at h <;> cases h
  · cases h
  · cases h
def gLenK : D → Out D
  | .dK _ ks _ => .ok (.int ks.length)
  | _ => .bad
section
variable {X : Cx} {cm : Cm} {E : XS} {b : Bool} {pos p : Pos} {a e : Expr}
theorem call_str_none : CallR X (.type "str") (fun xs H Q => xs = [.non] ∧ Q (.str ⟨#[78, 111, 110, 101]⟩) H) := by
  intro pins s σ H xs us Q I r h
  obtain ⟨rfl, q⟩ := h
  obtain ⟨u, rfl, rx⟩ := vals1 r
  cases rx
  exact PySem.P.str_of_none ⟨.str _, H, I.tok _, ⟨_, rfl⟩, q⟩
theorem de_str2 {fs : Env → Out (List D)} (hg : Gl X "str") (hm : X.mg "str" = none) (ha : DA X cm E false [a] fs) (he : starEach [a] X.env = (false, eval a X.env) :: starEach [] X.env := by rfl) (hpl : (backTo pos (starEach [] X.env)).any (·.1) = false := by rfl) : DE X cm E b (.Call (.Name "str" p) [a] [] pos) (cA (g1 gStr2) fs) :=
  de_ty (CallR.or (CallR.or SkE.call_str_str call_str_int) call_str_none) (ra_1 fun W H v d w rp Q hp => by
    unfold gStr2 at hp
    split at hp
    · cases rp; exact .inl (.inl ⟨_, rfl, hp _ H [] (Ex.refl H) (.str _) FpN.nil⟩)
    · split at hp
      · rename_i i hb
        cases rp
        obtain ⟨n, rfl⟩ := Int.eq_ofNat_of_zero_le hb.1
        refine .inl (.inr ⟨_, rfl, log_small (by simpa using hb.2), ?_⟩)
        rw [num_str]
        exact hp _ H [] (Ex.refl H) (.str _) FpN.nil
      · exact hp.elim
    · cases rp
      exact .inr ⟨rfl, hp _ H [] (Ex.refl H) (.str _) FpN.nil⟩
    · exact hp.elim) (noEx_g1 noEx_str2) hg hm (by decide +kernel) ha (by decide) (by decide) he hpl
end
end DL

namespace DL
variable [Tbs]
open PySem L2 PyProof.Rows
section
variable {prog : Program} {w : World} {A : Around} {E : Value → Shared → Prop} {s : Shared} {d : Addr} {es : Array DictEntry} {ep : Nat}
end
section
variable {X : Cx}
end
end DL

namespace DL
variable [Tbs]
open PySem L2
section
variable {X : Cx} {cm : Cm} {E : XS}
end
end DL

namespace DL
variable [Tbs]
open PySem L2
section
variable {prog : Program} {w : World} {A : Around} {E : Value → Shared → Prop} {s : Shared}
end
end DL

namespace DL
variable [Tbs]
open PySem L2
section
variable {X : Cx} {pins : List (Addr × Obj)} {σ : St} {H : Hp} {s : Shared} {a b : Addr} {A : Around} {E : Value → Shared → Prop} {W : Addr → Prop} {xs : List NEnt} {k : NestedKey}
end
section
variable {X : Cx} {o e f : Expr} {apos cpos : Pos} {td ty tx : TE}
end
section
variable {X : Cx} {cm : Cm} {E : XS} {b : Bool} {o e f : Expr} {apos cpos : Pos} {fa fb fc : F}
end
end DL

namespace DL
variable [Tbs]
open PySem L2
def xMvP (i : Nat) (fp : Env → Out (List Step)) : FX := fun r => match fp r, r[i]? with
  | .ok π, some (some d) => (match getP π d with
    | some e => .ok (e, r.set i (some (setP π .any d)))
    | none => .bad)
  | _, _ => .bad
section
variable {X : Cx} {cm : Cm} {E : XS} {o : Expr}
theorem xe_mvP (i : Nat) {fp : Env → Out (List Step)} (h : XP X cm o i fp) : XE X cm E o (xMvP i fp) := by
  obtain ⟨te, h1, h2⟩ := h.ex
  refine ⟨te, h1, fun W0 H σ r fps g Q hp => ?_⟩
  unfold xMvP at hp
  split at hp
  · rename_i π d hπ hd
    split at hp
    · rename_i e he
      obtain ⟨v, s1, s2⟩ := g.sl i d hd
      refine (h2 W0 H σ r fps d v g hd s1 π hπ).2 Q fun H1 u e1 vp => ?_
      have gd := g.ex e1
      obtain ⟨u', A, fe, B, k1, k2, k3, k4⟩ := (s2.ex e1).focus π he
      cases vp.one k1
      have mA : ∀ a ∈ A, a ∈ fps i := fun a m => by rw [k3]; simp [m]
      have mB : ∀ a ∈ B, a ∈ fps i := fun a m => by rw [k3]; simp [m]
      have mF : ∀ a ∈ fe, a ∈ fps i := fun a m => by rw [k3]; simp [m]
      have mAB : ∀ a ∈ A ++ B, a ∈ fps i := fun a m => (List.mem_append.mp m).elim (mA a) (mB a)
      have nd0 := gd.nd i
      rw [k3] at nd0
      have ndAB : (A ++ B).Nodup ∧ fe.Nodup ∧ ∀ a ∈ fe, a ∉ A ++ B := by
        rw [List.append_assoc] at nd0
        obtain ⟨n1, n2, n3⟩ := List.nodup_append.mp nd0
        obtain ⟨n4, n5, n6⟩ := List.nodup_append.mp n2
        refine ⟨List.nodup_append.mpr ⟨n1, n5, fun a m b m' => n3 a m b (List.mem_append_right _ m')⟩, n4, fun a m z => ?_⟩
        rcases List.mem_append.mp z with z | z
        · exact n3 a z a (List.mem_append_left _ m) rfl
        · exact n6 a m a z rfl
      have hw : ∀ a, Wof (Wp W0 fe) (fun k => if k = i then A ++ B else fps k) a → Wof W0 fps a := fun a z => by
        rcases z with z | ⟨k, z⟩
        · rcases z with z | z
          · exact .inl z
          · exact .inr ⟨i, mF a z⟩
        · simp only [] at z
          split at z
          · exact .inr ⟨i, mAB a z⟩
          · exact .inr ⟨k, z⟩
      refine hp u H1 (fun k => if k = i then A ++ B else fps k) fe ⟨by rw [List.length_set]; exact gd.len, ⟨fun a z => gd.wof.1 a (hw a (.inl z)), gd.w0.2⟩, fun j d' hj => ?_, fun j => ?_, fun j k a m1 m2 => ?_, fun j a m z => ?_, fun j a m => ?_⟩ (k2.move (fun a z => .inl (hw a z)) fun a o z _ _ => z) ndAB.2.1 (fun a m => gd.nw i a (mF a m)) ?_
      · by_cases hji : j = i
        · subst hji
          rw [List.getElem?_set_self (List.getElem?_eq_some_iff.mp hd).1] at hj
          cases hj
          rw [if_pos rfl]
          have := k4 (W' := Wof (Wp W0 fe) (fun k => if k = j then A ++ B else fps k)) (H' := H1) (e' := .any) (fe' := []) (fun a z => .inl (hw a z)) (fun a o q _ _ => q) .any
          rw [List.append_nil] at this
          exact ⟨v, s1, this⟩
        · rw [List.getElem?_set_ne (fun z => hji z.symm)] at hj
          obtain ⟨u, u1, u2⟩ := gd.sl j d' hj
          simp only [hji, if_false]
          exact ⟨u, u1, u2.move (fun a z => .inl (hw a z)) fun a o z _ _ => z⟩
      · split
        · exact ndAB.1
        · exact gd.nd j
      · have m1' : a ∈ fps j := by
          split at m1
          · rename_i h; rw [h]; exact mAB a m1
          · exact m1
        have m2' : a ∈ fps k := by
          split at m2
          · rename_i h; rw [h]; exact mAB a m2
          · exact m2
        exact gd.dj j k a m1' m2'
      · have m' : a ∈ fps j := by
          split at m
          · rename_i h; rw [h]; exact mAB a m
          · exact m
        rcases z with z | z
        · exact gd.nw j a m' z
        · have e2 := gd.dj j i a m' (mF a z)
          subst e2
          rw [if_pos rfl] at m
          exact ndAB.2.2 a z m
      · have m' : a ∈ fps j := by
          split at m
          · rename_i h; rw [h]; exact mAB a m
          · exact m
        exact gd.mu j a m'
      · have f1 := Fram.of_ex (fps := fps) (fpv := []) e1 fun _ m => (nomatch m)
        refine ⟨fun a o q n t => f1.keep a o q n t, fun j a m => ?_, fun a m => .inl ⟨i, mF a m⟩, f1.back, f1.tb⟩
        split at m
        · exact .inl ⟨i, mAB a m⟩
        · exact .inl ⟨j, m⟩
    · exact hp.elim
  · exact hp.elim
end
end DL

namespace DL
variable [Tbs]
open PySem L2
section
variable {X : Cx} {cm : Cm} {E : XS} {ks : Nat → Bool} {pos : Pos} {e tg : Expr}
def TgC (cm : Cm) (ks : Nat → Bool) (t : List V → St → Hp → (St → Hp → Prop) → Prop) (g : List D → Env → Out Env) : Prop :=
  ∀ W0 H σ r fps vs ds fpv, Good cm (Wp W0 fpv) H σ r fps → Reps cm (Wof (Wp W0 fpv) fps) H vs ds fpv → fpv.Nodup → (∀ a ∈ fpv, ¬ W0 a) → ∀ Q : St → Hp → Prop,
    Post (g ds r) (fun r' => ∀ σ' fps', Good cm W0 H σ' r' fps' → (∀ j a, a ∈ fps' j → (∃ k, a ∈ fps k) ∨ a ∈ fpv) → Keep ks σ σ' → Q σ' H) noX → t vs σ H Q
def TgC1 (cm : Cm) (ks : Nat → Bool) (t : V → St → Hp → (St → Hp → Prop) → Prop) (g : D → Env → Out Env) : Prop :=
  ∀ W0 H σ r fps v d fpv, Good cm (Wp W0 fpv) H σ r fps → Rep cm (Wof (Wp W0 fpv) fps) H v d fpv → fpv.Nodup → (∀ a ∈ fpv, ¬ W0 a) → ∀ Q : St → Hp → Prop,
    Post (g d r) (fun r' => ∀ σ' fps', Good cm W0 H σ' r' fps' → (∀ j a, a ∈ fps' j → (∃ k, a ∈ fps k) ∨ a ∈ fpv) → Keep ks σ σ' → Q σ' H) noX → t v σ H Q
structure YG (X : Cx) (cm : Cm) (ks : Nat → Bool) (tg : Expr) (g : D → Env → Out Env) : Prop where
  ex : ∃ t, PG X tg t ∧ TgC1 cm ks t g
structure YGs (X : Cx) (cm : Cm) (ks : Nat → Bool) (tgs : List Expr) (g : List D → Env → Out Env) : Prop where
  ex : ∃ t, PGs X tgs t ∧ TgC cm ks t g
theorem yg_name (i : Nat) {x : Str} (hN : X.N.Nodup) (hk : ks i = false := by rfl) (hi : X.N[i]? = some x := by rfl) (hx : Loc X.env.scope x := by first | exact Or.inl rfl | exact Or.inr rfl) (hf : X.fn x = true ∨ X.env.scope.names.lookup x = some .local := by first | exact .inl rfl | exact .inr rfl) : YG X cm ks (.Name x pos) (sN i) := by
  refine ⟨_, pg_name hN hi hx hf, fun W0 H σ r fps v d fpv gd rp nd nw Q hp => ?_⟩
  unfold sN at hp
  split at hp
  · refine hp _ _ (Good.put gd rp nd nw i) (fun j a m => ?_) (Keep.set hk)
    split at m
    · exact .inr m
    · exact .inl ⟨j, m⟩
  · exact hp.elim
theorem ygs_nil : YGs X cm ks [] sNil := by
  refine ⟨_, pgs_nil, fun W0 H σ r fps vs ds fpv gd rp nd nw Q hp => ?_⟩
  unfold sNil at hp
  split at hp
  · cases rp
    exact ⟨rfl, hp σ fps gd.drop (fun j a m => .inl ⟨j, m⟩) (Keep.refl ks σ)⟩
  · exact hp.elim
theorem wp_app2 {W0 : Addr → Prop} (f1 f2 : List Addr) : Wp W0 (f1 ++ f2) = Wp (Wp W0 f2) f1 := by
  funext a
  apply propext
  show (W0 a ∨ a ∈ f1 ++ f2) ↔ ((W0 a ∨ a ∈ f2) ∨ a ∈ f1)
  rw [List.mem_append, or_assoc, or_comm (a := a ∈ f1)]
theorem ygs_cons {e : Expr} {es : List Expr} {g : D → Env → Out Env} {h : List D → Env → Out Env} (h1 : YG X cm ks e g) (h2 : YGs X cm ks es h) (hs : (assignEach (e :: es) X.env).map (·.2) = assign e X.env :: (assignEach es X.env).map (·.2) := by rfl) : YGs X cm ks (e :: es) (sCons g h) := by
  obtain ⟨t, a1, a2⟩ := h1.ex
  obtain ⟨u, b1, b2⟩ := h2.ex
  refine ⟨_, pgs_cons a1 b1 hs, fun W0 H σ r fps vs ds fpv gd rp nd nw Q hp => ?_⟩
  unfold sCons at hp
  split at hp
  · cases rp with
    | cons k1 k2 =>
      rename_i v f1 vs' f2
      obtain ⟨n1, n2, n3⟩ := List.nodup_append.mp nd
      rw [wp_app2] at gd k1 k2
      refine ⟨_, _, rfl, ?_⟩
      refine a2 (Wp W0 f2) H σ r fps _ _ f1 gd k1 n1 (fun a m => fun w => w.elim (nw a (List.mem_append_left _ m)) fun m2 => n3 a m a m2 rfl) _ (hp.bind.mono (fun r1 q σ1 fps1 g1 s1 w1 => ?_) fun _ _ z => z)
      · refine b2 W0 H σ1 r1 fps1 _ _ f2 g1 (k2.move (fun a z => .inl ?_) fun _ _ q _ _ => q) n2 (fun a m => nw a (List.mem_append_right _ m)) _ (q.mono (fun r2 q2 σ2 fps2 g2 s2 w2 => q2 σ2 fps2 g2 (fun j a m => ?_) (w1.trans w2)) fun _ _ z => z)
        · rcases z with z | ⟨j, m⟩
          · exact .inl (.inl z)
          · rcases s1 j a m with ⟨k, m'⟩ | m'
            · exact .inr ⟨k, m'⟩
            · exact .inl (.inr m')
        · rcases s2 j a m with ⟨k, m'⟩ | m'
          · rcases s1 k a m' with ⟨l, m2⟩ | m2
            · exact .inl ⟨l, m2⟩
            · exact .inr (List.mem_append_left _ m2)
          · exact .inr (List.mem_append_right _ m')
  · exact hp.elim
theorem yg_tup {es : List Expr} {k : Nat} {g : List D → Env → Out Env} {n : Nat} (hc : X.calm = true) (h : YGs X cm ks es g) (hn : (assignEach es X.env).length = n := by rfl) (hst : (assignEach es X.env).findIdx? (·.1) = none := by rfl) : YG X cm ks (.Tuple es k pos) (sT n g) := by
  obtain ⟨t, a1, a2⟩ := h.ex
  refine ⟨_, pg_tup hc a1 hn hst, fun W0 H σ r fps v d fpv gd rp nd nw Q hp => ?_⟩
  unfold sT at hp
  split at hp
  · split at hp
    · rename_i hl
      cases rp with
      | tup h n rs => exact ⟨_, _, rfl, SqT.of h, by rw [rs.len]; exact hl, a2 W0 H σ r fps _ _ _ gd rs nd nw Q hp⟩
    · exact hp.elim
  · exact hp.elim
def sAsgO (f : FX) (g : D → Env → Out Env) : FS := fun r => match f r with
  | .ok p => match g p.1 p.2 with
    | .ok r' => .nx r'
    | _ => .bad
  | .exn x r' => .exn x r'
  | .bad => .bad
end
end DL

namespace DL
variable [Tbs]
open PySem L2
section
variable {X : Cx} {cm : Cm} {E : XS} {pos : Pos} {a : Expr} {f : FX}
end
end DL

namespace DL
variable [Tbs]
open PySem L2
inductive ItsE (K : PySem.W.Frag) (H : Hp) : List V → List PyData → Prop
  | nil : ItsE K H [] []
  | plain {v : V} {d : PyData} {vs : List V} {ds : List PyData} : Dp K H v d → d.showable = true → d.hasDict = false → d.depth ≤ 58 → ItsE K H vs ds → ItsE K H (v :: vs) (d :: ds)
  | dict {p : Addr} {vs : List V} {ds : List PyData} : Rd H p (.dK []) → ItsE K H vs ds → ItsE K H (.ref p :: vs) (.dict [] :: ds)
section
variable {X : Cx} {cm : Cm} {E : XS} {b : Bool} {pos p : Pos} {a : Expr}
end
end DL

namespace DL
variable [Tbs]
open PySem PySem.Spec PyProof.Rows L2
section
variable {P : Program} {w : World} {K : PySem.W.Frag} {tg : Expr} {d : Addr} {o : Obj} {es : Array DictEntry} {ep : Nat}
end
section
variable {cm : Cm} {W : Addr → Prop} {H : Hp}
end
section
variable {X : Cx} {cm : Cm} {E : XS} {b : Bool} {pos : Pos} {a c tg : Expr} {fa fb : F}
end
end DL

namespace DL
variable [Tbs]
open PySem L2
section
variable {X : Cx} {cm : Cm} {E : XS} {pos : Pos} {a k e : Expr} {fs : Env → Out (List D × Env)}
end
end DL

namespace DL
variable [Tbs]
open PySem L2
section
variable {X : Cx} {cm : Cm} {E : XS} {b : Bool} {pos : Pos}
end
end DL

namespace DL
variable [Tbs]
open PySem PySem.Spec PyProof.Rows L2
section
variable {X : Cx}
end
section
variable {X : Cx} {cm : Cm} {E : XS}
end
end DL

namespace DL
variable [Tbs]
open PySem PySem.Spec PyProof.Rows L2
section
variable {P : Program} {w : World} {K : PySem.W.Frag} {d : Addr} {o : Obj} {es : Array DictEntry} {ep : Nat}
end
section
variable {cm : Cm} {W : Addr → Prop} {H : Hp}
end
section
variable {X : Cx} {cm : Cm} {E : XS} {pos : Pos} {ks0 : Nat → Bool} {g : FS}
end
end DL

namespace DL
variable [Tbs]
open PySem L2
section
variable {X : Cx} {cm : Cm} {E : XS} {b : Bool} {pos p apos : Pos} {a c e o : Expr} {fa fb : F}
end
end DL

namespace DL
variable [Tbs]
open PySem L2
section
variable {X : Cx} {cm : Cm} {E : XS} {b : Bool} {pos p : Pos} {a c : Expr} {fa fb : F}
end
end DL

namespace DL
variable [Tbs]
open PySem L2
end DL

namespace DL
variable [Tbs]
open PySem L2
def reN (i : Nat) (d : D) : SO → SO
  | .nx r => .nx (r.set i (some d))
  | _ => .bad
def anyL (xs : List D) : List D := xs.map fun _ => .any
def sForM (i : Nat) (fp : Env → Out (List Step)) (gg : D → Env → Out Env) (g : FS) : FS := fun r => match fp r, r[i]? with
  | .ok π, some (some d) => (match getP π d with
    | some (.lst true xs) => reN i (setP π (.lst true (anyL xs)) d) (forS gg g xs (r.set i (some .any)))
    | _ => .bad)
  | _, _ => .bad
theorem reps_any {cm : Cm} {W W' : Addr → Prop} {H H' : Hp} : ∀ {vs : List V} {xs : List D} {fp : List Addr}, Reps cm W H vs xs fp → Reps cm W' H' vs (anyL xs) []
  | _, _, _, .nil => .nil
  | _, _, _, .cons _ r => .cons (fp := []) .any (reps_any r)
section
variable {X : Cx} {cm : Cm} {E : XS} {pos : Pos} {ks0 : Nat → Bool} {tg : Expr} {g : FS}
theorem ds_forM (i : Nat) {iter : Expr} {body : List Stmt} {gg : D → Env → Out Env} {fp : Env → Out (List Step)} (hp' : PassesOwn (model X.prog X.w) X.A X.env X.xe) (hc : X.calm = true) (hv : XP X cm iter i fp) (hg : YG X cm (fun j => ks0 j || j == i) tg gg) (hb : DSs X cm E (fun j => ks0 j || j == i) body g) (hs : ∀ x, foldedSetIterable iter X.env x = pure x := by intro _; rfl) : DS X cm E ks0 (.For tg iter body [] pos) (sForM i fp gg g) := by
  obtain ⟨te, t1, t2⟩ := hv.ex
  obtain ⟨gt, g1, g2⟩ := hg.ex
  obtain ⟨tb, b1, b2⟩ := hb.ex
  refine ⟨_, ps_for (pos := pos) hp' hc (pi_list t1) g1 b1 hs, fun W0 H σ r fps gd0 De hp => ?_⟩
  unfold sForM at hp
  split at hp
  case h_2 => exact hp.elim
  rename_i π d hπ hd
  split at hp
  case h_2 => exact hp.elim
  rename_i xs hx
  obtain ⟨v, q1, q2⟩ := gd0.sl i d hd
  refine (t2 W0 H σ r fps d v gd0 hd q1 π hπ).2 _ fun H1 u e1 vp => ?_
  have gd := gd0.ex e1
  obtain ⟨u', A, fe, B, k1, k2, k3, k4⟩ := (q2.ex e1).focus π hx
  cases vp.one k1
  obtain ⟨p, vs, fx, rfl, hp1, rfl, hr⟩ := k2.lstOf
  have fm1 : Fram H fps H1 fps [] := Fram.of_ex e1 fun _ m => nomatch m
  have nd0 := gd.nd i
  rw [k3] at nd0
  have nd1 := List.nodup_append.mp nd0
  have nd2 := List.nodup_append.mp nd1.1
  have nd3 := List.nodup_cons.mp nd2.2.1
  have inA : ∀ a ∈ A, a ∈ fps i := fun a m => by rw [k3]; exact List.mem_append_left _ (List.mem_append_left _ m)
  have inB : ∀ a ∈ B, a ∈ fps i := fun a m => by rw [k3]; exact List.mem_append_right _ m
  have inP : p ∈ fps i := by rw [k3]; exact List.mem_append_left _ (List.mem_append_right _ (List.mem_cons_self ..))
  have inX : ∀ a ∈ fx, a ∈ fps i := fun a m => by rw [k3]; exact List.mem_append_left _ (List.mem_append_right _ (List.mem_cons_of_mem _ m))
  obtain ⟨hid, hhid⟩ : ∃ hid, hid = A ++ [p] ++ B := ⟨_, rfl⟩
  have inH : ∀ a ∈ hid, a ∈ fps i := fun a m => by
    rw [hhid] at m
    rcases List.mem_append.mp m with m | m
    · rcases List.mem_append.mp m with m | m
      · exact inA a m
      · rw [List.mem_singleton.mp m]; exact inP
    · exact inB a m
  have hidX : ∀ a ∈ fx, a ∉ hid := fun a m z => by
    rw [hhid] at z
    rcases List.mem_append.mp z with z | z
    · rcases List.mem_append.mp z with z | z
      · exact nd2.2.2 a z a (List.mem_cons_of_mem _ m) rfl
      · rw [List.mem_singleton.mp z] at m; exact nd3.1 m
    · exact nd1.2.2 a (List.mem_append_right _ (List.mem_cons_of_mem _ m)) a z rfl
  have ndH : hid.Nodup := by
    rw [hhid]
    refine List.nodup_append.mpr ⟨List.nodup_append.mpr ⟨nd2.1, by simp, fun a m b m' => ?_⟩, nd1.2.1, fun a m b m' => ?_⟩
    · rw [List.mem_singleton.mp m']; exact nd2.2.2 a m p (List.mem_cons_self ..)
    · rcases List.mem_append.mp m with m | m
      · exact nd1.2.2 a (List.mem_append_left _ m) b m'
      · rw [List.mem_singleton.mp m]; exact nd1.2.2 p (List.mem_append_right _ (List.mem_cons_self ..)) b m'
  obtain ⟨f0, hf0⟩ : ∃ f0 : Fps, f0 = fun j => if j = i then [] else fps j := ⟨_, rfl⟩
  have sub0 : ∀ {j a}, a ∈ f0 j → j ≠ i ∧ a ∈ fps j := fun {j a} m => by
    rw [hf0] at m
    simp only [] at m
    split at m
    · cases m
    · exact ⟨by assumption, m⟩
  -- the state ahead of the first turn
  have g0 : Good cm (Wp (Wp W0 hid) fx) H1 σ (r.set i (some .any)) f0 := by
    refine ⟨by rw [List.length_set, gd.len], (gd.w0.p fun a m => gd.mu i a (inH a m)).p fun a m => gd.mu i a (inX a m), fun j d' q => ?_, fun j => ?_, fun j k a m m' => gd.dj j k a (sub0 m).2 (sub0 m').2, fun j a m z => ?_, fun j a m => gd.mu j a (sub0 m).2⟩
    · rw [List.getElem?_set] at q
      by_cases e : i = j
      · subst e
        rw [if_pos rfl] at q
        split at q
        · cases q
          refine ⟨v, q1, ?_⟩
          rw [hf0]
          simp only [if_true]
          exact .any
        · cases q
      · rw [if_neg e] at q
        obtain ⟨u, a1, a2⟩ := gd.sl j d' q
        have e0 : f0 j = fps j := by rw [hf0]; simp [Ne.symm e]
        rw [e0]
        refine ⟨u, a1, a2.move (fun a z => .inl ?_) fun _ _ q _ _ => q⟩
        rcases z with ((z | z) | z) | ⟨k, m⟩
        · exact .inl z
        · exact .inr ⟨i, inH a z⟩
        · exact .inr ⟨i, inX a z⟩
        · exact .inr ⟨k, (sub0 m).2⟩
    · rw [hf0]
      simp only []
      split
      · exact List.nodup_nil
      · exact gd.nd j
    · obtain ⟨m1, m2⟩ := sub0 m
      rcases z with (z | z) | z
      · exact gd.nw j a m2 z
      · exact m1 (gd.dj j i a m2 (inH a z))
      · exact m1 (gd.dj j i a m2 (inX a z))
  have fm0 : Fram H1 fps H1 f0 [] := ⟨fun _ _ h _ _ => h, fun j a m => .inl ⟨j, (sub0 m).2⟩, fun _ m => (nomatch m), fun _ h => h, fun h => h⟩
  have r0 : Reps cm (Wof (Wp (Wp W0 hid) fx) f0) H1 vs xs fx := hr.move (fun a z => .inl (by
    rcases z with ((z | z) | z) | ⟨k, m⟩
    · exact .inl z
    · exact .inr ⟨i, inH a z⟩
    · exact .inr ⟨i, inX a z⟩
    · exact .inr ⟨k, (sub0 m).2⟩)) fun _ _ q _ _ => q
  have fin : ∀ σ' H' r' f' rest, Good cm (Wp (Wp W0 hid) rest) H' σ' r' f' → Fram H1 fps H' f' [] → (∀ a o, H1 a = some o → isTb o = false → a ∈ hid → H' a = some o) → Keep (fun j => ks0 j || j == i) σ σ' → SPost cm E W0 H σ fps ks0 De (reN i (setP π (.lst true (anyL xs)) d) (.nx r')) → De.nx σ' H' := by
    intro σ' H' r' f' rest g' fm' hh' k' hq
    have hpH : H' p = some (.lst vs) := hh' p _ hp1 rfl (by rw [hhid]; simp)
    have hq : SPost cm E W0 H σ fps ks0 De (.nx (r'.set i (some (setP π (.lst true (anyL xs)) d)))) := hq
    obtain ⟨f3, hf3⟩ : ∃ f3 : Fps, f3 = fun j => if j = i then hid else f' j := ⟨_, rfl⟩
    have sub3 : ∀ {j a}, a ∈ f3 j → (j = i ∧ a ∈ hid) ∨ (j ≠ i ∧ a ∈ f' j) := fun {j a} m => by
      rw [hf3] at m
      simp only [] at m
      split at m
      · exact .inl ⟨by assumption, m⟩
      · exact .inr ⟨by assumption, m⟩
    have wsub : ∀ a, Wof W0 f3 a → Wof W0 fps a ∨ H1 a = none := fun a z => by
      rcases z with z | ⟨j, m⟩
      · exact .inl (.inl z)
      · rcases sub3 m with ⟨_, m⟩ | ⟨_, m⟩
        · exact .inl (.inr ⟨i, inH a m⟩)
        · exact (fm'.old j a m).imp (fun ⟨l, z⟩ => .inr ⟨l, z⟩) id
    refine hq σ' H' f3 ⟨by rw [List.length_set]; exact g'.len, ⟨fun a z => g'.w0.1 a (.inl (.inl z)), g'.w0.2⟩, fun j d' q => ?_, fun j => ?_, fun j l a m m' => ?_, fun j a m z => ?_, fun j a m => ?_⟩ (fm1.trans ⟨fun a o q n t => fm'.keep a o q n t, fun j a m => ?_, fun _ m => (nomatch m), fm'.back, fm'.tb⟩) ⟨k'.1, fun j z => k'.2 j (by simp [z])⟩
    · rw [List.getElem?_set] at q
      by_cases e : i = j
      · subst e
        rw [if_pos rfl] at q
        split at q
        · cases q
          have e0 : f3 i = hid := by rw [hf3]; simp
          rw [e0, hhid]
          refine ⟨v, (k'.2 i (by simp)).trans q1, ?_⟩
          refine k4 wsub (fun a o q t c => ?_) (.lstO (fp := []) hpH (reps_any hr))
          rcases c with c | c | c
          · exact fm'.keep a o q (fun l m => c (.inr ⟨l, m⟩)) t
          · exact hh' a o q t (by rw [hhid]; simp [c])
          · exact hh' a o q t (by rw [hhid]; simp [c])
        · cases q
      · rw [if_neg e] at q
        obtain ⟨u, a1, a2⟩ := g'.sl j d' q
        have e0 : f3 j = f' j := by rw [hf3]; simp [Ne.symm e]
        rw [e0]
        refine ⟨u, a1, a2.move (fun a z => .inl ?_) fun _ _ q _ _ => q⟩
        rcases z with z | ⟨l, m⟩
        · exact .inl (.inl (.inl z))
        · rcases sub3 m with ⟨_, m⟩ | ⟨_, m⟩
          · exact .inl (.inl (.inr m))
          · exact .inr ⟨l, m⟩
    · rw [hf3]
      simp only []
      split
      · exact ndH
      · exact g'.nd j
    · rcases sub3 m with ⟨rfl, m1⟩ | ⟨e1, m1⟩ <;> rcases sub3 m' with ⟨rfl, m2⟩ | ⟨e2, m2⟩
      · rfl
      · exact (g'.nw l a m2 (.inl (.inr m1))).elim
      · exact (g'.nw j a m1 (.inl (.inr m2))).elim
      · exact g'.dj j l a m1 m2
    · rcases sub3 m with ⟨rfl, m1⟩ | ⟨e1, m1⟩
      · exact gd.nw _ a (inH a m1) z
      · exact g'.nw j a m1 (.inl (.inl z))
    · rcases sub3 m with ⟨rfl, m1⟩ | ⟨e1, m1⟩
      · exact g'.w0.1 a (.inl (.inr m1))
      · exact g'.mu j a m1
    · rcases sub3 m with ⟨rfl, m1⟩ | ⟨e1, m1⟩
      · exact .inl ⟨_, inH a m1⟩
      · exact fm'.old j a m1
  refine ⟨p, rfl, ⟨_, SqL.of hp1⟩, ?_⟩
  refine ⟨fun k m σ' H' => m = xs.length - k ∧ k ≤ xs.length ∧ ∃ r' f' rest, Good cm (Wp (Wp W0 hid) rest) H' σ' r' f' ∧ Fram H1 fps H' f' [] ∧ (∀ a o, H1 a = some o → isTb o = false → a ∈ hid → H' a = some o) ∧ Reps cm (Wof (Wp (Wp W0 hid) rest) f') H' (vs.drop k) (xs.drop k) rest ∧ rest.Nodup ∧ (∀ a ∈ rest, a ∈ fx) ∧ Keep (fun j => ks0 j || j == i) σ σ' ∧ SPost cm E W0 H σ fps ks0 De (reN i (setP π (.lst true (anyL xs)) d) (forS gg g (xs.drop k) r')),
    ⟨xs.length, by simp, Nat.zero_le _, _, f0, fx, g0, fm0, fun _ _ q _ _ => q, r0, nd3.2, fun _ m => m, Keep.refl _ σ, hp⟩, ?_⟩
  rintro k m σ' H' ⟨rfl, hk, r', f', rest, g', fm', hh', rs', nr', sr', k', hq⟩
  have hpH : H' p = some (.lst vs) := hh' p _ hp1 rfl (by rw [hhid]; simp)
  by_cases hlt : k < xs.length
  · right
    have hlv : k < vs.length := by rw [hr.len]; exact hlt
    rw [List.drop_eq_getElem_cons hlt, List.drop_eq_getElem_cons hlv] at rs'
    rw [List.drop_eq_getElem_cons hlt] at hq
    generalize hxk : xs[k] = xk at rs' hq
    generalize hvk : vs[k] = vk at rs'
    refine ⟨⟨_, vk, SqL.of hpH, by rw [List.getElem?_eq_getElem hlv, hvk]⟩, fun σ5 H5 => ∃ r' f' rest, Good cm (Wp (Wp W0 hid) rest) H5 σ5 r' f' ∧ Fram H1 fps H5 f' [] ∧ (∀ a o, H1 a = some o → isTb o = false → a ∈ hid → H5 a = some o) ∧ Reps cm (Wof (Wp (Wp W0 hid) rest) f') H5 (vs.drop (k + 1)) (xs.drop (k + 1)) rest ∧ rest.Nodup ∧ (∀ a ∈ rest, a ∈ fx) ∧ Keep (fun j => ks0 j || j == i) σ σ5 ∧ SPost cm E W0 H σ fps ks0 De (reN i (setP π (.lst true (anyL xs)) d) (forS gg g (xs.drop (k + 1)) r')), fun σ5 H5 h5 => ⟨xs.length - (k + 1), by omega, rfl, hlt, h5⟩, fun x H3 y => ?_⟩
    obtain ⟨rfl, y⟩ := y
    have y := y _ (SqL.of hpH)
    rw [List.getElem?_eq_getElem hlv, hvk] at y
    cases y
    cases rs' with
    | @cons _ _ fa _ _ fb ra rb =>
    obtain ⟨n1, n2, n3⟩ := List.nodup_append.mp nr'
    rw [wp_app2] at g' ra rb
    refine g2 (Wp (Wp W0 hid) fb) H3 σ' r' f' _ xk fa g' ra n1 (fun a m w => ?_) _ ?_
    · rcases w with (w | w) | w
      · exact gd.nw i a (inX a (sr' a (List.mem_append_left _ m))) w
      · exact hidX a (sr' a (List.mem_append_left _ m)) w
      · exact n3 a m a w rfl
    unfold forS at hq
    split at hq
    case h_2 => exact hq.elim
    rename_i r2 hr2
    rw [hr2]
    intro σ2 f2 gd2 sub2 k2
    have fm2 : Fram H1 fps H3 f2 [] := by
      refine ⟨fun a o q n t => fm'.keep a o q n t, fun j a m => ?_, fun _ m => (nomatch m), fm'.back, fm'.tb⟩
      rcases sub2 j a m with ⟨l, m⟩ | m
      · exact fm'.old l a m
      · exact .inl ⟨i, inX a (sr' a (List.mem_append_left _ m))⟩
    refine b2 (Wp (Wp W0 hid) fb) H3 σ2 r2 f2 gd2 _ ?_
    have step : ∀ σ4 H4 r4 f4, Good cm (Wp (Wp W0 hid) fb) H4 σ4 r4 f4 → Fram H3 f2 H4 f4 [] → Keep (fun j => ks0 j || j == i) σ2 σ4 →
        Fram H1 fps H4 f4 [] ∧ (∀ a o, H1 a = some o → isTb o = false → a ∈ hid → H4 a = some o) ∧ Reps cm (Wof (Wp (Wp W0 hid) fb) f4) H4 (vs.drop (k + 1)) (xs.drop (k + 1)) fb ∧ Keep (fun j => ks0 j || j == i) σ σ4 := by
      intro σ4 H4 r4 f4 g4 fm4 k4
      refine ⟨fm2.trans fm4, fun a o q t m => fm4.keep a o (hh' a o q t m) (fun j z => gd2.nw j a z (.inl (.inr m))) t, ?_, (k'.trans k2).trans k4⟩
      refine rb.move (fun a z => ?_) fun a o q t c => fm4.keep a o q (fun j m => ?_) t
      · rcases z with ((z | z) | z) | ⟨j, m⟩
        · exact .inl (.inl (.inl (.inl (.inl z))))
        · exact .inl (.inl (.inl (.inl (.inr z))))
        · exact .inl (.inl (.inl (.inr z)))
        · rcases fm4.old j a m with ⟨l, m2⟩ | z
          · rcases sub2 l a m2 with ⟨l2, m3⟩ | m3
            · exact .inl (.inr ⟨l2, m3⟩)
            · exact .inl (.inl (.inr m3))
          · exact .inr z
      · rcases c with c | c
        · refine c ?_
          rcases sub2 j a m with ⟨l2, m3⟩ | m3
          · exact .inr ⟨l2, m3⟩
          · exact .inl (.inr m3)
        · exact gd2.nw j a m (.inr c)
    cases hb : g r2 with
    | nx r4 =>
      rw [hb] at hq
      intro σ4 H4 f4 g4 fm4 k4
      obtain ⟨s1, s2, s3, s4⟩ := step σ4 H4 r4 f4 g4 fm4 k4
      exact ⟨r4, f4, fb, g4, s1, s2, s3, n2, fun a m => sr' a (List.mem_append_right _ m), s4, hq⟩
    | ct r4 =>
      rw [hb] at hq
      intro σ4 H4 f4 g4 fm4 k4
      obtain ⟨s1, s2, s3, s4⟩ := step σ4 H4 r4 f4 g4 fm4 k4
      exact ⟨r4, f4, fb, g4, s1, s2, s3, n2, fun a m => sr' a (List.mem_append_right _ m), s4, hq⟩
    | bk r4 =>
      rw [hb] at hq
      intro σ4 H4 f4 g4 fm4 k4
      obtain ⟨s1, s2, s3, s4⟩ := step σ4 H4 r4 f4 g4 fm4 k4
      exact fin σ4 H4 r4 f4 fb g4 s1 s2 s4 hq
    | rt d4 r4 => rw [hb] at hq; exact hq.elim
    | exn x4 r4 => rw [hb] at hq; exact hq.elim
    | bad => rw [hb] at hq; exact hq.elim
  · left
    have e : k = xs.length := by omega
    subst e
    refine ⟨⟨_, SqL.of hpH, by rw [hr.len]; exact Nat.le_refl _⟩, ?_⟩
    rw [List.drop_length] at hq
    exact fin σ' H' r' f' rest g' fm' hh' k' hq
end
end DL

namespace DL
variable [Tbs]
open PySem L2
def sAppPM (i j : Nat) (fp : Env → Out (List Step)) : FX := fun r => match fp r, r[i]?, r[j]? with
  | .ok π, some (some d), some (some x) => if i = j then .bad else match getP π d with
    | some (.lst true es) => if es.length < 1000000 then .ok (.non, (r.set j (some .any)).set i (some (setP π (.lst true (es ++ [x])) d))) else .bad
    | _ => .bad
  | _, _, _ => .bad
theorem Good.take {cm : Cm} {W0 : Addr → Prop} {H : Hp} {σ : St} {r : Env} {fps : Fps} {j : Nat} {x : D} {v : V} (gd : Good cm W0 H σ r fps) (hd : r[j]? = some (some x)) (q1 : σ[j]? = some (some v)) :
    Good cm (Wp W0 (fps j)) H σ (r.set j (some .any)) (fun k => if k = j then [] else fps k) ∧ (∀ a, Wof (Wp W0 (fps j)) (fun k => if k = j then [] else fps k) a → Wof W0 fps a) ∧ Fram H fps H (fun k => if k = j then [] else fps k) (fps j) := by
  have hw : ∀ a, Wof (Wp W0 (fps j)) (fun k => if k = j then [] else fps k) a → Wof W0 fps a := fun a z => by
    rcases z with z | ⟨k, z⟩
    · rcases z with z | z
      · exact .inl z
      · exact .inr ⟨j, z⟩
    · simp only [] at z
      split at z
      · cases z
      · exact .inr ⟨k, z⟩
  refine ⟨⟨by rw [List.length_set]; exact gd.len, ⟨fun a z => gd.wof.1 a (hw a (.inl z)), gd.w0.2⟩, fun l d' hj => ?_, fun l => ?_, fun l k a m1 m2 => ?_, fun l a m z => ?_, fun l a m => ?_⟩, hw, ⟨fun a o z _ _ => z, fun l a m => ?_, fun a m => .inl ⟨j, m⟩, fun _ z => z, fun z => z⟩⟩
  · by_cases hji : l = j
    · subst hji
      rw [List.getElem?_set_self (List.getElem?_eq_some_iff.mp hd).1] at hj
      cases hj
      rw [if_pos rfl]
      exact ⟨v, q1, .any⟩
    · rw [List.getElem?_set_ne (fun z => hji z.symm)] at hj
      obtain ⟨u, u1, u2⟩ := gd.sl l d' hj
      simp only [hji, if_false]
      exact ⟨u, u1, u2.move (fun a z => .inl (hw a z)) fun a o z _ _ => z⟩
  · split
    · exact List.nodup_nil
    · exact gd.nd l
  · split at m1
    · cases m1
    · split at m2
      · cases m2
      · exact gd.dj l k a m1 m2
  · split at m
    · cases m
    · rename_i hne
      rcases z with z | z
      · exact gd.nw l a m z
      · exact hne (gd.dj l j a m z)
  · split at m
    · cases m
    · exact gd.mu l a m
  · split at m
    · cases m
    · exact .inl ⟨l, m⟩
section
variable {X : Cx} {cm : Cm} {E : XS} {a e : Expr} {pos apos : Pos}
theorem xe_appPM (i j : Nat) {fp : Env → Out (List Step)} (h : XP X cm a i fp) (h1 : PE X e (tVar j)) (hbase : attributeBase a "append" X.env (eval a X.env) = eval a X.env := by rfl)
    (hfew : ((backTo pos (starEach [e] X.env)).all (fun x => !x.1) && (backToKw pos (keywordEach [] X.env)).all (fun x => x.1.isSome) && decide ([e].length + ([] : List Keyword).length + (if ([] : List Keyword).isEmpty then 0 else 1) < 30)) = true := by rfl)
    (hline : (apos.endLine == pos.line) = true := by rfl) (hs : starEach [e] X.env = (false, eval e X.env) :: starEach [] X.env := by rfl) (hplain : (backTo pos (starEach [] X.env)).any (·.1) = false := by rfl) :
    XE X cm E (.Call (.Attribute a "append" apos) [e] [] pos) (sAppPM i j fp) := by
  obtain ⟨tp, p1, p2⟩ := h.ex
  refine ⟨_, pe_bm PySem.F.plainAttrs_list PySem.F.slot_list_append PySem.F.type_list_append mt_append p1 (pa_cons h1 pa_nil hs) hbase hfew hline hs hplain, fun W0 H σ r fps gd Q hp => ?_⟩
  unfold sAppPM at hp
  split at hp
  case h_2 => exact hp.elim
  rename_i π d x h1 h2 h3
  split at hp
  case isTrue => exact hp.elim
  rename_i hij
  split at hp
  case h_2 => exact hp.elim
  rename_i es hg1
  split at hp
  case isFalse => exact hp.elim
  rename_i hl
  obtain ⟨v0, q1, q2⟩ := gd.sl i d h2
  obtain ⟨_, hq⟩ := p2 W0 H σ r fps d v0 gd h2 q1 π h1
  refine hq _ fun H1 u e1 vp => ?_
  have g1 := gd.ex e1
  obtain ⟨u', _, _, _, k1, k2, _, _⟩ := q2.focus π hg1
  cases vp.one (k1.ex e1)
  obtain ⟨pa, vs0, fe0, rfl, hpa0, _, _⟩ := k2.lstOf
  refine ⟨.inl ⟨rfl, _, SqL.of (e1 _ _ hpa0)⟩, ?_⟩
  obtain ⟨v, w1, w2⟩ := g1.sl j x h3
  refine ⟨v, w1, ?_⟩
  obtain ⟨g2, hw, fm⟩ := g1.take h3 w1
  have h2' : (r.set j (some .any))[i]? = some (some d) := by rw [List.getElem?_set_ne (Ne.symm hij)]; exact h2
  obtain ⟨pa2, vs, fe, m1, m2, m3, m4, m5, m6⟩ := mut_core g2 (fun a m => g1.nw j a m) (g1.nd j) ((Fram.of_ex (fps := fps) (fpv := []) e1 fun _ m => nomatch m).trans fm) q1 h2' hg1
  cases m1.one vp
  have w2' : Rep cm (Wof (Wp W0 (fps j)) (fun k => if k = j then [] else fps k)) H1 v x (fps j) := w2.move (fun a z => .inl (hw a z)) fun a o z _ _ => z
  obtain ⟨fN, gN, fmN⟩ := m6 (Reps.app m3 (Reps.one w2')) (fun a m => by simpa using m) (List.nodup_append.mpr ⟨m5, g1.nd j, fun a m b m' z => g2.nw i a (m4 a m) (.inr (z ▸ m'))⟩)
  refine ⟨pa, vs, v, rfl, rfl, m2, Nat.lt_of_lt_of_le (show vs.length < 1000000 by rw [m3.len]; exact hl) (by decide), ?_⟩
  exact hp .non _ fN [] (by rw [wp_nil]; exact gN) .non List.nodup_nil (fun _ m => (nomatch m)) fmN
end
end DL

namespace DL
variable [Tbs]
open PySem L2
section
variable {X : Cx} {cm : Cm} {E : XS} {pos apos : Pos} {o : Expr} {n k : Nat} {ps : List Str}
theorem xe_mio0 (i : Nat) {cl m : Str} {mm : List D → Out (D × D)} {pl : Sem Bool} (hk : X.K = cm.K) (hC : CmOk cm) (hok : cm.ok cl) (M : MethOk X.prog X.w X.K X.mg X.base cm cl m k ps [] (spX cm n mm)) (hr : RoomG k X.A) (hx : PassG X E) (hv : PE X o (tVar i))
    (ht : eval (.Call (.Attribute o m apos) [] [] pos) X.env = (do
      let ov ← eval o X.env
      standAt apos.atName
      let (f, first) ← holding [ov] (getMethod ov m pl)
      callWith pos f first (backTo pos (starEach [] X.env)) (backToKw pos (keywordEach [] X.env))) := by rfl) : XE X cm E (.Call (.Attribute o m apos) [] [] pos) (xMIO i cl m n mm xNil) := by
  obtain ⟨f, fd, dvs, ds, F, Mt, hb, hvl, hdd⟩ := M.ex
  refine ⟨_, pe_meth0G hv (by rw [hk]; exact (hC _ hok).cl) Mt F hr hb hvl hx ht, fun W0 H σ r fps g Q hp => ?_⟩
  unfold xMIO at hp
  split at hp
  · rename_i d hd
    split at hp
    · rename_i hob
      obtain ⟨v0, q1, q2⟩ := io_con (cm := cm) (E := E) (ta := tNil) (fs := xNil) (fun W0 H σ r fps g Q hp => hp [] H fps [] (by rw [wp_nil]; exact g) .nil List.nodup_nil (fun _ m => (nomatch m)) (Fram.refl H fps)) W0 H σ r fps g Q hp
      obtain ⟨v1, e1, e2⟩ := g.sl i d hd
      rw [q1] at e1
      cases e1
      obtain ⟨pa, dx, fs', rfl, hpa, hl⟩ := e2.isObF hob
      refine ⟨_, q1, pa, dx, fs', rfl, hpa, hl, ?_⟩
      have hn : dvs = [] := by
        have := (hdd (fun _ => False) (fun _ => none)).len
        exact List.length_eq_zero_iff.mp this
      subst hn
      simp only [List.append_nil]
      exact q2
    · exact hp.elim
  · exact hp.elim
end
end DL

namespace PySem
open PySem.AutoSeq1
set_option maxRecDepth 8000 in
theorem ext_tup (l : Addr) (items : Array Value) (n : Nat) (b : Addr) (items2 : Array Value) (n2 : Nat) (dd : Option Addr) (ss : Array (Option Value)) (hs0 : ¬(!items.isEmpty && Builtin.List.listTooLong (items.size + items2.size)) = true) (hs1 : items.size ≤ sizeLine) (hs2 : items.size + items2.size ≤ sizeLine + 1 := by seq_fits) :
    Meets (Builtin.«list.extend» ⟨[.ref l, .ref b], []⟩) (fun _ R s => s.heap.get? l = some { cls := .type "list", dict := none, data := .seq items n, slots := #[] } ∧ s.heap.get? b = some { cls := .type "tuple", dict := dd, data := .seq items2 n2, slots := ss } ∧ R (.ok (.ret Value.none)) { s with heap := s.heap.update l (Obj.mapSeq fun x => x ++ items2), toks := s.toks }) :=
  .of_wp fun prog w A R s h => by
    obtain ⟨hp, g, d, tk, os⟩ := s; obtain ⟨hl, hb, h⟩ := h; have f1 := idx_int; have f2 := sub_tuple_tuple; have f3 := sub_list_list; have f4 := sub_tuple_list; have f5 := sub_list_tuple;
    have hz' : (items ++ items2).size ≤ sizeLine + 1 := by rw [Array.size_append]; exact hs2
    wp_walk using (wpAny_updateSeq hl rfl (hz := hs1) (_hz' := hz')), wpAny_loadPart' hl, wpAny_loadPart' hb; exact ⟨_, rfl, h⟩
end PySem
namespace DL
variable [Tbs]
open PySem L2
section
variable {X : Cx} {cm : Cm} {E : XS} {pos p apos : Pos} {a e : Expr} {fa : F}
def rExtendT : V → List V → Hp → VK → Prop := fun x vs H Q => ∃ l b xs zs, x = .ref l ∧ vs = [.ref b] ∧ H l = some (.lst xs) ∧ H b = some (.tup zs) ∧ xs.length + zs.length ≤ sizeLine ∧ Q .non (upd H l (.lst (xs ++ zs)))
theorem mt_extendT : MtM X "list.extend" rExtendT := by
  intro pins s σ H x vs v us Q I rx rv h
  obtain ⟨l, b, xs, zs, rfl, rfl, hH, hB, hz, q⟩ := h
  cases rx
  obtain ⟨u, rfl, ru⟩ := rv.one
  cases ru
  obtain ⟨z, its, n, r, hl, e⟩ := I.lstM hH
  obtain ⟨z2, its2, r2, ht⟩ := I.hok b _ hB
  obtain ⟨oT, e2, oc, n2, od⟩ := ht
  obtain ⟨cT, dT, dd, sT⟩ := oT
  simp only at oc od
  subst oc od
  have hl2 := r2.length
  have hsz : its.toArray.size + its2.toArray.size ≤ sizeLine := by rw [List.size_toArray, List.size_toArray]; omega
  have hlong : ¬ (!its.toArray.isEmpty && Builtin.List.listTooLong (its.toArray.size + its2.toArray.size)) = true := by
    rw [notLongL hsz, Bool.and_false]
    exact Bool.false_ne_true
  refine call_meets F.slot_list_extend ⟨_, e, rfl⟩ F.entry_list_extend (F.args_list_extend_2 _ _)
    (PySem.ext_tup l its.toArray n b its2.toArray n2 dT sT hlong (by rw [List.size_toArray]; omega) (by omega)) ⟨e, e2, ?_⟩
  refine ⟨.non, _, I.lset (its' := its ++ its2) hH e (by simp) (r.append r2) ?_, rfl, q⟩
  rw [List.length_append]
  omega
def sExtT (i : Nat) (fp : Env → Out (List Step)) (ns : List Nat) (f : F) : FX := fun r => match fp r, r[i]?, f (view ns r) with
  | .ok π, some (some d), .ok (.tup xs) => match getP π d, (if shrs xs = true then frzN ns r else r)[i]? with
    | some (.lst true _), some (some d1) => match getP π d1 with
      | some (.lst true es) => if es.length + xs.length ≤ 1000000 then .ok (.non, (if shrs xs = true then frzN ns r else r).set i (some (setP π (.lst true (es ++ xs)) d1))) else .bad
      | _ => .bad
    | _, _ => .bad
  | _, _, _ => .bad
theorem xe_extT (i : Nat) (ns : List Nat) {fp : Env → Out (List Step)} (h : XP X cm a i fp) (h1 : DE X cm E0' true e fa) (hbase : attributeBase a "extend" X.env (eval a X.env) = eval a X.env := by rfl)
    (hfew : ((backTo pos (starEach [e] X.env)).all (fun x => !x.1) && (backToKw pos (keywordEach [] X.env)).all (fun x => x.1.isSome) && decide ([e].length + ([] : List Keyword).length + (if ([] : List Keyword).isEmpty then 0 else 1) < 30)) = true := by rfl)
    (hline : (apos.endLine == pos.line) = true := by rfl) (hs : starEach [e] X.env = (false, eval e X.env) :: starEach [] X.env := by rfl) (hplain : (backTo pos (starEach [] X.env)).any (·.1) = false := by rfl) :
    XE X cm E (.Call (.Attribute a "extend" apos) [e] [] pos) (sExtT i fp ns fa) := by
  obtain ⟨tp, p1, p2⟩ := h.ex
  obtain ⟨te, a1, a2⟩ := h1.ex
  refine ⟨_, pe_bm PySem.F.plainAttrs_list PySem.F.slot_list_extend PySem.F.type_list_extend mt_extendT p1 (pa_cons a1 pa_nil hs) hbase hfew hline hs hplain, fun W0 H σ r fps gd Q hp => ?_⟩
  unfold sExtT at hp
  split at hp
  case h_2 => exact hp.elim
  rename_i π d xs h1 h2 h3
  split at hp
  case h_2 => exact hp.elim
  rename_i es0 d1 hg hd1
  split at hp
  case h_2 => exact hp.elim
  rename_i es hg1
  split at hp
  case isFalse => exact hp.elim
  rename_i hl
  obtain ⟨v0, q1, q2⟩ := gd.sl i d h2
  obtain ⟨_, hq⟩ := p2 W0 H σ r fps d v0 gd h2 q1 π h1
  refine hq _ fun H1 u e1 vp => ?_
  have g1 := gd.ex e1
  obtain ⟨u', _, _, _, k1, k2, _, _⟩ := q2.focus π hg
  cases vp.one (k1.ex e1)
  obtain ⟨pa, vs0, fe0, rfl, hpa0, _, _⟩ := k2.lstOf
  refine ⟨.inl ⟨rfl, _, SqL.of (e1 _ _ hpa0)⟩, ?_⟩
  refine a2 (Wr W0 fps ns) H1 σ (view ns r) (g1.wr ns) (g1.view ns) _ ?_
  rw [h3]
  intro v H2 fpv e2 rp fn
  obtain ⟨f2, g2, rp', hw, fm⟩ := g1.settle ns e2 (Reps.one rp) fn
  have hsx : shrs [D.tup xs] = shrs xs := by simp [shrs, shr]
  rw [hsx] at g2
  have rt := rp'.the
  obtain ⟨pb, zs, rfl, hpb, hrz⟩ : ∃ pb zs, v = .ref pb ∧ H2 pb = some (.tup zs) ∧ Reps cm _ H2 zs xs fpv := by
    cases rt with
    | tup h n r => exact ⟨_, _, rfl, h, r⟩
  obtain ⟨pa2, vs, fe, m1, m2, m3, m4, m5, m6⟩ := mut_core g2 hw fn.1 ((Fram.of_ex (fps := fps) (fpv := []) e1 fun _ m => nomatch m).trans fm) q1 hd1 hg1
  cases m1.one (vp.ex e2)
  obtain ⟨fN, gN, fmN⟩ := m6 (Reps.app m3 hrz) (fun a m => (List.mem_append.mp m).imp id id) (List.nodup_append.mpr ⟨m5, fn.1, fun a m b m' z => g2.nw i a (m4 a m) (.inr (z ▸ m'))⟩)
  refine ⟨pa, pb, vs, zs, rfl, rfl, m2, hpb, Nat.le_trans (show vs.length + zs.length ≤ 1000000 by rw [m3.len, hrz.len]; exact hl) (by decide), ?_⟩
  exact hp .non _ fN [] (by rw [wp_nil]; exact gN) .non List.nodup_nil (fun _ m => (nomatch m)) fmN
end
end DL

namespace DL
open PySem L2
variable {X : Xc → Env → Prop}
abbrev XF : Xc → Env → Prop := fun _ _ => False
def WO' {α : Type} (X : Xc → Env → Prop) (o : Out α) (P : α → Prop) : Prop := match o with
  | .ok a => P a
  | .exn x r => X x r
  | .bad => False
def WS' (X : Xc → Env → Prop) (o : SO) (N : Env → Prop) (R : D → Env → Prop) : Prop := match o with
  | .nx r => N r
  | .rt d r => R d r
  | .exn x r => X x r
  | _ => False
def WB' (X : Xc → Env → Prop) (o : SO) (N : Env → Prop) (B : Env → Prop) (R : D → Env → Prop) : Prop := match o with
  | .nx r => N r
  | .ct r => N r
  | .bk r => B r
  | .rt d r => R d r
  | .exn x r => X x r
  | _ => False
@[simp] theorem WO_ok {α : Type} {a : α} {P : α → Prop} : WO' X (.ok a) P ↔ P a := Iff.rfl
@[simp] theorem WO_bad {α : Type} {P : α → Prop} : WO' X (.bad : Out α) P ↔ False := Iff.rfl
@[simp] theorem WO_exn {α : Type} {x : Xc} {r : Env} {P : α → Prop} : WO' X (.exn x r : Out α) P ↔ X x r := Iff.rfl
@[simp] theorem WO_bind {α β : Type} {o : Out α} {f : α → Out β} {P : β → Prop} : WO' X (o.bind f) P ↔ WO' X o fun a => WO' X (f a) P := by cases o <;> exact Iff.rfl
@[simp] theorem WO_safe {α : Type} {o : Out α} {P : α → Prop} : WO' X (safe o) P ↔ WO' XF o P := by cases o <;> exact Iff.rfl
theorem WO'.mono {α : Type} {o : Out α} {P P' : α → Prop} (h : WO' X o P) (k : ∀ a, P a → P' a) : WO' X o P' := by
  cases o with
  | ok a => exact k a h
  | _ => exact h
theorem WO'.ok {α : Type} {o : Out α} {P : α → Prop} (h : WO' XF o P) : ∃ a, o = .ok a ∧ P a := by
  cases o with
  | ok a => exact ⟨a, rfl, h⟩
  | _ => exact h.elim
theorem WO'.eq {α : Type} {o : Out α} {a : α} (h : WO' XF o fun x => x = a) : o = .ok a := by
  obtain ⟨b, h1, h2⟩ := WO'.ok h
  rw [h1, h2]
theorem WO.eq {α : Type} {o : Out α} {a : α} (h : WO' XF o fun x => x = a) : o = .ok a := WO'.eq h
theorem WO'.up {α : Type} {o : Out α} {P : α → Prop} (h : WO' XF o P) : WO' X o P := by
  cases o with
  | ok a => exact h
  | _ => exact h.elim
@[simp] theorem WS_nx {r : Env} {N : Env → Prop} {R : D → Env → Prop} : WS' X (.nx r) N R ↔ N r := Iff.rfl
@[simp] theorem WS_rt {d : D} {r : Env} {N : Env → Prop} {R : D → Env → Prop} : WS' X (.rt d r) N R ↔ R d r := Iff.rfl
@[simp] theorem WS_exn {x : Xc} {r : Env} {N : Env → Prop} {R : D → Env → Prop} : WS' X (.exn x r) N R ↔ X x r := Iff.rfl
@[simp] theorem WS_bad {N : Env → Prop} {R : D → Env → Prop} : WS' X .bad N R ↔ False := Iff.rfl
theorem WS'.mono {o : SO} {N N' : Env → Prop} {R R' : D → Env → Prop} (h : WS' X o N R) (h1 : ∀ r, N r → N' r) (h2 : ∀ d r, R d r → R' d r) : WS' X o N' R' := by
  cases o with
  | nx r => exact h1 r h
  | rt d r => exact h2 d r h
  | _ => exact h
section
variable {r : Env} {N : Env → Prop} {R : D → Env → Prop} {f g : FS} {fx : FX} {P : D × Env → Prop}
@[simp] theorem WS_seq : WS' X (sSeq f g r) N R ↔ WS' X (f r) (fun r1 => WS' X (g r1) N R) R := by
  unfold sSeq
  cases f r <;> exact Iff.rfl
@[simp] theorem WS_next : WS' X (sNext r) N R ↔ N r := Iff.rfl
@[simp] theorem WS_ret : WS' X (sRet fx r) N R ↔ WO' X (fx r) fun p => R p.1 p.2 := by
  unfold sRet
  cases fx r <;> exact Iff.rfl
@[simp] theorem WS_drop : WS' X (sDrop fx r) N R ↔ WO' X (fx r) fun p => N p.2 := by
  unfold sDrop
  cases fx r <;> exact Iff.rfl
@[simp] theorem WS_set {i : Nat} : WS' X (sSet i fx r) N R ↔ WO' X (fx r) fun p => i < p.2.length ∧ N (p.2.set i (some p.1)) := by
  unfold sSet
  cases fx r with
  | ok p =>
    show WS' X (if i < p.2.length then _ else _) N R ↔ _
    by_cases h : i < p.2.length
    · rw [if_pos h]; exact ⟨fun z => ⟨h, z⟩, fun z => z.2⟩
    · rw [if_neg h]; exact ⟨fun z => z.elim, fun z => h z.1⟩
  | _ => exact Iff.rfl
@[simp] theorem WS_if {t : Env → Out (Bool × Env)} : WS' X (sIf t f g r) N R ↔ WO' X (t r) fun p => if p.1 = true then WS' X (f p.2) N R else WS' X (g p.2) N R := by
  unfold sIf
  cases t r with
  | ok p =>
    show WS' X (if p.1 = true then _ else _) N R ↔ if p.1 = true then _ else _
    split <;> exact Iff.rfl
  | _ => exact Iff.rfl
@[simp] theorem WO_lift {ns : List Nat} {ff : F} : WO' X (lift ns ff r) P ↔ WO' (fun x _ => X x (if shrs x.ds = true then frzN ns r else r)) (ff (view ns r)) fun d => P (d, if shr d = true then frzN ns r else r) := by
  unfold lift
  cases ff (view ns r) <;> exact Iff.rfl
@[simp] theorem WO_liftT {ns : List Nat} {ff : Env → Out Bool} {P : Bool × Env → Prop} : WO' X (liftT ns ff r) P ↔ WO' (fun x _ => X x (if shrs x.ds = true then frzN ns r else r)) (ff (view ns r)) fun b => P (b, r) := by
  unfold liftT
  cases ff (view ns r) <;> exact Iff.rfl
@[simp] theorem WO_liftA {ns : List Nat} {ff : Env → Out (List D)} {P : List D × Env → Prop} : WO' X (liftA ns ff r) P ↔ WO' (fun x _ => X x (if shrs x.ds = true then frzN ns r else r)) (ff (view ns r)) fun ds => P (ds, if shrs ds = true then frzN ns r else r) := by
  unfold liftA
  cases ff (view ns r) <;> exact Iff.rfl
@[simp] theorem WO_liftI {ns : List Nat} {ff : Env → Out (List D)} {P : List D × Env → Prop} : WO' X (liftI ns ff r) P ↔ WO' (fun x _ => X x (if shrs x.ds = true then frzN ns r else r)) (ff (view ns r)) fun ds => P (ds, frzN ns r) := by
  unfold liftI
  cases ff (view ns r) <;> exact Iff.rfl
theorem WO_if {α : Type} {c : Prop} [Decidable c] {a b : Out α} {P : α → Prop} : WO' X (if c then a else b) P ↔ if c then WO' X a P else WO' X b P := by
  split <;> exact Iff.rfl
theorem WO_xIO {i n : Nat} {m : List D → Out (D × D)} {h : Env → Out (List D × Env)} {d : D} (hd : r[i]? = some (some d)) : WO' X (xIO i n m h r) P ↔ WO' X (h r) fun p => ∃ d0, p.2[i]? = some (some d0) ∧ p.1.length + 1 = n ∧ WO' (fun x r => ∃ d1, r = [some d1] ∧ X x (p.2.set i (some d1))) (m (d0 :: frzs p.1)) fun q => P (q.1, p.2.set i (some q.2)) := by
  unfold xIO
  rw [hd]
  show WO' X (Out.bind _ _) P ↔ _
  rw [WO_bind]
  have : ∀ p : List D × Env, WO' X (match p.2[i]? with
      | some (some d0) => if p.1.length + 1 = n then (match m (d0 :: frzs p.1) with
        | .ok q => .ok (q.1, p.2.set i (some q.2))
        | .exn x [some d1] => .exn x (p.2.set i (some d1))
        | _ => .bad) else .bad
      | _ => .bad : Out (D × Env)) P ↔ ∃ d0, p.2[i]? = some (some d0) ∧ p.1.length + 1 = n ∧ WO' (fun x r => ∃ d1, r = [some d1] ∧ X x (p.2.set i (some d1))) (m (d0 :: frzs p.1)) fun q => P (q.1, p.2.set i (some q.2)) := by
    intro p
    split
    · rename_i d0 h0
      by_cases hl : p.1.length + 1 = n
      · rw [if_pos hl]
        constructor
        · intro z
          refine ⟨d0, h0, hl, ?_⟩
          split at z
          · rename_i q hq; rw [hq]; exact z
          · rename_i x d1 hq; rw [hq]; exact ⟨d1, rfl, z⟩
          · exact z.elim
        · rintro ⟨d1, h1, _, z⟩
          rw [h0] at h1; cases h1
          split
          · rename_i q hq; rw [hq] at z; exact z
          · rename_i x d1 hq
            rw [hq] at z
            obtain ⟨d2, e, z⟩ := z
            cases e
            exact z
          · rename_i n1 n2
            cases hq : m (d0 :: frzs p.1) with
            | ok q => exact (n1 q hq).elim
            | exn x r' =>
              rw [hq] at z
              obtain ⟨d2, e, z⟩ := z
              exact (n2 x d2 (by rw [hq, e])).elim
            | bad => rw [hq] at z; exact z.elim
      · rw [if_neg hl]
        exact ⟨fun z => z.elim, fun ⟨_, _, z, _⟩ => hl z⟩
    · rename_i hno
      exact ⟨fun z => z.elim, fun ⟨d0, z, _⟩ => hno d0 z⟩
  exact ⟨fun z => z.mono fun p => (this p).mp, fun z => z.mono fun p => (this p).mpr⟩
theorem WO_runP {n N' : Nat} {g : FS} {ds : List D} {P : D → Prop} (hl : ds.length = n) : WO' X (runP n N' g ds) P ↔ WS' (fun x _ => X x []) (g (ds.map some ++ List.replicate (N' - n) none)) (fun _ => P .non) fun d _ => P d := by
  unfold runP
  rw [if_pos hl]
  cases hg : g (ds.map some ++ List.replicate (N' - n) none) <;> exact Iff.rfl
theorem WO_runX {n N' : Nat} {g : FS} {ds : List D} {P : D × D → Prop} (hl : ds.length = n) : WO' X (runX n N' g ds) P ↔ WS' (fun x r => ∃ d0, r[0]? = some (some d0) ∧ X x [some d0]) (g (ds.map some ++ List.replicate (N' - n) none)) (fun r => ∃ d0, r[0]? = some (some d0) ∧ P (.non, d0)) fun d r => ∃ d0, r[0]? = some (some d0) ∧ P (d, d0) := by
  unfold runX
  rw [if_pos hl]
  cases hg : g (ds.map some ++ List.replicate (N' - n) none) with
  | nx r =>
    show WO' X (match r[0]? with | some (some d0) => _ | _ => _) P ↔ ∃ d0, r[0]? = some (some d0) ∧ P (.non, d0)
    split
    · rename_i d0 h0; exact ⟨fun z => ⟨d0, h0, z⟩, fun ⟨d1, h1, z⟩ => by rw [h0] at h1; cases h1; exact z⟩
    · rename_i hno; exact ⟨fun z => z.elim, fun ⟨d0, z, _⟩ => hno d0 z⟩
  | rt d r =>
    show WO' X (match r[0]? with | some (some d0) => _ | _ => _) P ↔ ∃ d0, r[0]? = some (some d0) ∧ P (d, d0)
    split
    · rename_i d0 h0; exact ⟨fun z => ⟨d0, h0, z⟩, fun ⟨d1, h1, z⟩ => by rw [h0] at h1; cases h1; exact z⟩
    · rename_i hno; exact ⟨fun z => z.elim, fun ⟨d0, z, _⟩ => hno d0 z⟩
  | exn x r =>
    show WO' X (match r[0]? with | some (some d0) => _ | _ => _) P ↔ ∃ d0, r[0]? = some (some d0) ∧ X x [some d0]
    split
    · rename_i d0 h0; exact ⟨fun z => ⟨d0, h0, z⟩, fun ⟨d1, h1, z⟩ => by rw [h0] at h1; cases h1; exact z⟩
    · rename_i hno; exact ⟨fun z => z.elim, fun ⟨d0, z, _⟩ => hno d0 z⟩
  | _ => exact Iff.rfl
theorem WS_for {it : Env → Out (List D × Env)} {tg : D → Env → Out Env} {body : FS} : WS' X (sFor it tg body r) N R ↔ WO' X (it r) fun p => WS' X (forS tg body p.1 p.2) N R := by
  unfold sFor
  cases it r <;> exact Iff.rfl
theorem WS_forS {tg : D → Env → Out Env} {body : FS} (I : List D → Env → Prop) : ∀ (ds : List D) (r : Env), I ds r → (∀ d ds' r, I (d :: ds') r → WO' XF (tg d r) fun r1 => WB' X (body r1) (I ds') N R) → (∀ r, I [] r → N r) → WS' X (forS tg body ds r) N R
  | [], r, h, _, h2 => h2 r h
  | d :: ds, r, h, h1, h2 => by
    have := h1 d ds r h
    unfold forS
    cases ht : tg d r with
    | ok r1 =>
      rw [ht] at this
      have this : WB' X (body r1) (I ds) N R := this
      cases hb : body r1 with
      | nx r2 => rw [hb] at this; simp only [hb]; exact WS_forS I ds r2 this h1 h2
      | ct r2 => rw [hb] at this; simp only [hb]; exact WS_forS I ds r2 this h1 h2
      | bk r2 => rw [hb] at this; simp only [hb]; exact this
      | rt d' r2 => rw [hb] at this; simp only [hb]; exact this
      | exn x r2 => rw [hb] at this; simp only [hb]; exact this
      | bad => rw [hb] at this; exact this.elim
    | exn x r1 => rw [ht] at this; exact this.elim
    | bad => rw [ht] at this; exact this.elim
end
end DL

namespace DL
open PySem L2
variable {X : Xc → Env → Prop}
section
variable {r : Env} {P : D → Prop} {fa fb fc : F} {o : Option D} {d e : D} {i j : Int}
@[simp] theorem cV_zero : cV 0 (some d :: r) = .ok d := rfl
@[simp] theorem cV_succ {k : Nat} : cV (k + 1) (o :: r) = cV k r := rfl
@[simp] theorem cK_eq : cK d r = .ok d := rfl
@[simp] theorem c1_eq {g : D → Out D} : c1 g fa r = (fa r).bind g := rfl
@[simp] theorem c2_eq {g : D → D → Out D} : c2 g fa fb r = (fa r).bind fun a => (fb r).bind fun b => g a b := rfl
@[simp] theorem c2S_eq {g : D → D → Out D} : c2S g fa fb r = (fa r).bind fun a => if isStrB a = true then (fb r).bind fun b => g a b else .bad := rfl
@[simp] theorem c3_eq {g g' : D → D → Out D} : c3 g g' fa fb fc r = (fa r).bind fun a => (fb r).bind fun b => (g a b).bind fun z => (isB z).bind fun k => if k = true then (fc r).bind fun c => g' b c else .ok (.bl false) := rfl
@[simp] theorem cFz_eq : cFz fa r = (fa r).bind fun a => .ok (frz a) := rfl
@[simp] theorem aNil_eq : aNil r = .ok [] := rfl
@[simp] theorem aCons_eq {g : Env → Out (List D)} : aCons fa g r = (fa r).bind fun d => (g r).bind fun ds => .ok (d :: ds) := rfl
@[simp] theorem cA_eq {g : List D → Out D} {fs : Env → Out (List D)} : cA g fs r = (fs r).bind g := rfl
@[simp] theorem cLst_eq {g : Env → Out (List D)} : cLst g r = (g r).bind fun ds => if ds.length ≤ 1000 then .ok (.lst true ds) else .bad := rfl
@[simp] theorem cTup_eq {g : Env → Out (List D)} : cTup g r = (g r).bind fun ds => if ds.length ≤ 1000 then .ok (.tup ds) else .bad := rfl
@[simp] theorem isB_bl {b : Bool} : isB (.bl b) = .ok b := rfl
@[simp] theorem tB_eq : DL.tB fa r = (fa r).bind isB := rfl
@[simp] theorem tAnd_eq {f g : Env → Out Bool} : DL.tAnd f g r = (f r).bind fun b => if b = true then g r else .ok false := rfl
@[simp] theorem tOr_eq {f g : Env → Out Bool} : DL.tOr f g r = (f r).bind fun b => if b = true then .ok true else g r := rfl
@[simp] theorem tNot_eq {f : Env → Out Bool} : DL.tNot f r = (f r).bind fun b => .ok (!b) := rfl
@[simp] theorem cIf_eq {t : Env → Out Bool} : cIf t fa fb r = (t r).bind fun b => if b = true then fa r else fb r := rfl
@[simp] theorem cAnd_eq : cAnd fa fb r = (fa r).bind fun a => (isB a).bind fun b => if b = true then fb r else .ok (.bl false) := rfl
@[simp] theorem cOr_eq : cOr fa fb r = (fa r).bind fun a => (isB a).bind fun b => if b = true then .ok (.bl true) else fb r := rfl
@[simp] theorem cNot_eq : cNot fa r = (fa r).bind fun a => (isB a).bind fun b => .ok (.bl (!b)) := rfl
@[simp] theorem chk_eq {n : Nat} {m : List D → Out D} {ds : List D} : chk n m ds = if ds.length = n then m ds else .bad := rfl
@[simp] theorem g1_eq {g : D → Out D} : g1 g [d] = g d := rfl
@[simp] theorem bind_ok {α β : Type} {a : α} {f : α → Out β} : (Out.ok a).bind f = f a := rfl
@[simp] theorem xNil_eq : xNil r = .ok ([], r) := rfl
@[simp] theorem xCons_eq {f : FX} {h : Env → Out (List D × Env)} : xCons f h r = (f r).bind fun p => (h p.2).bind fun q => .ok (p.1 :: q.1, q.2) := rfl
@[simp] theorem xLst_eq {h : Env → Out (List D × Env)} : xLst h r = (h r).bind fun p => if p.1.length ≤ 1000 then .ok (.lst true p.1, p.2) else .bad := rfl
@[simp] theorem xTup_eq {h : Env → Out (List D × Env)} : xTup h r = (h r).bind fun p => if p.1.length ≤ 1000 then .ok (.tup p.1, p.2) else .bad := rfl
@[simp] theorem x2_eq {g : D → D → Out D} {f h : FX} : x2 g f h r = (f r).bind fun p => (h p.2).bind fun q => (g (frz p.1) (frz q.1)).bind fun d => .ok (d, q.2) := rfl
@[simp] theorem x2S_eq {g : D → D → Out D} {f h : FX} : x2S g f h r = (f r).bind fun p => if isStrB p.1 = true then (h p.2).bind fun q => (g (frz p.1) (frz q.1)).bind fun d => .ok (d, q.2) else .bad := rfl
@[simp] theorem xTB_eq {f : FX} : xTB f r = (f r).bind fun p => (isB p.1).bind fun k => .ok (k, p.2) := rfl
@[simp] theorem xAnd_eq {s t : Env → Out (Bool × Env)} : xAnd s t r = (s r).bind fun p => if p.1 = true then t p.2 else .ok (false, p.2) := rfl
@[simp] theorem xOr_eq {s t : Env → Out (Bool × Env)} : xOr s t r = (s r).bind fun p => if p.1 = true then .ok (true, p.2) else t p.2 := rfl
@[simp] theorem xNot_eq {s : Env → Out (Bool × Env)} : xNot s r = (s r).bind fun p => .ok (!p.1, p.2) := rfl
@[simp] theorem sN_eq {k : Nat} : sN k d r = if k < r.length then .ok (r.set k (some d)) else .bad := rfl
@[simp] theorem isStr_eq {cs : List Nat} : isStrB (.str cs) = true := rfl
@[simp] theorem frz_non : frz .non = .non := rfl
@[simp] theorem frz_any : frz .any = .any := rfl
@[simp] theorem frz_bl {b : Bool} : frz (.bl b) = .bl b := rfl
@[simp] theorem frz_int : frz (.int i) = .int i := rfl
@[simp] theorem frz_str {cs : List Nat} : frz (.str cs) = .str cs := rfl
@[simp] theorem frz_scr {ns : List Int} : frz (.scr ns) = .scr ns := rfl
@[simp] theorem frz_lst {b : Bool} {xs : List D} : frz (.lst b xs) = .lst false (frzs xs) := rfl
@[simp] theorem frz_tup {xs : List D} : frz (.tup xs) = .tup (frzs xs) := rfl
@[simp] theorem frz_dK {b : Bool} {ks : List Key} {xs : List D} : frz (.dK b ks xs) = .dK false ks (frzs xs) := rfl
@[simp] theorem frzs_nil : frzs [] = [] := rfl
@[simp] theorem frzs_cons {xs : List D} : frzs (d :: xs) = frz d :: frzs xs := rfl
@[simp] theorem shr_non : shr .non = false := rfl
@[simp] theorem shr_any : shr .any = false := rfl
@[simp] theorem shr_bl {b : Bool} : shr (.bl b) = false := rfl
@[simp] theorem shr_int : shr (.int i) = false := rfl
@[simp] theorem shr_str {cs : List Nat} : shr (.str cs) = false := rfl
@[simp] theorem shr_scr {ns : List Int} : shr (.scr ns) = false := rfl
@[simp] theorem shr_lst {b : Bool} {xs : List D} : shr (.lst b xs) = (!b || shrs xs) := rfl
@[simp] theorem shr_tup {xs : List D} : shr (.tup xs) = shrs xs := rfl
@[simp] theorem shr_dK {b : Bool} {ks : List Key} {xs : List D} : shr (.dK b ks xs) = (!b || shrs xs) := rfl
@[simp] theorem shrs_nil : shrs [] = false := rfl
@[simp] theorem shrs_cons {xs : List D} : shrs (d :: xs) = (shr d || shrs xs) := rfl
theorem frzs_strs (xs : List (List Nat)) : frzs (xs.map D.str) = xs.map D.str := by rw [frzs_map, List.map_map]; rfl
@[simp] theorem viewF_nil {p : Nat → Bool} {k : Nat} : viewF p k [] = [] := rfl
@[simp] theorem viewF_cons {p : Nat → Bool} {k : Nat} : viewF p k (o :: r) = (if p k = true then o.map frz else none) :: viewF p (k + 1) r := rfl
@[simp] theorem frzF_nil {p : Nat → Bool} {k : Nat} : frzF p k [] = [] := rfl
@[simp] theorem frzF_cons {p : Nat → Bool} {k : Nat} : frzF p k (o :: r) = (if p k = true then o.map frz else o) :: frzF p (k + 1) r := rfl
@[simp] theorem gAddI_eq : gI0 (fun i j => .int (i + j)) (.int i) (.int j) = .ok (.int (i + j)) := rfl
@[simp] theorem gI0_eq {g : Int → Int → D} : gI0 g (.int i) (.int j) = .ok (g i j) := rfl
@[simp] theorem WO_gI {C : Int → Int → Prop} [∀ i j, Decidable (C i j)] {g : Int → Int → D} : WO' X (gI C g (.int i) (.int j)) P ↔ C i j ∧ P (g i j) := by
  show WO' X (if C i j then _ else _) P ↔ _
  by_cases h : C i j
  · rw [if_pos h]; exact ⟨fun z => ⟨h, z⟩, fun z => z.2⟩
  · rw [if_neg h]; exact ⟨fun z => z.elim, fun z => h z.1⟩
@[simp] theorem WO_gAddS {u v : List Nat} : WO' X (gAddS (.str u) (.str v)) P ↔ u.length + v.length ≤ 1000000 ∧ P (.str (u ++ v)) := by
  show WO' X (if u.length + v.length ≤ 1000000 then _ else _) P ↔ _
  by_cases h : u.length + v.length ≤ 1000000
  · rw [if_pos h]; exact ⟨fun z => ⟨h, z⟩, fun z => z.2⟩
  · rw [if_neg h]; exact ⟨fun z => z.elim, fun z => h z.1⟩
@[simp] theorem WO_gMulS {u : List Nat} : WO' X (gMulS (.str u) (.int i)) P ↔ (u.length ≤ 1000 ∧ -1000 ≤ i ∧ i ≤ 1000) ∧ P (.str (List.replicate i.toNat u).flatten) := by
  show WO' X (if u.length ≤ 1000 ∧ -1000 ≤ i ∧ i ≤ 1000 then _ else _) P ↔ _
  by_cases h : u.length ≤ 1000 ∧ -1000 ≤ i ∧ i ≤ 1000
  · rw [if_pos h]; exact ⟨fun z => ⟨h, z⟩, fun z => z.2⟩
  · rw [if_neg h]; exact ⟨fun z => z.elim, fun z => h z.1⟩
@[simp] theorem WO_gEq : WO' X (gEq d e) P ↔ eqOk d e = true ∧ P (.bl (eqD d e)) := by
  unfold gEq
  by_cases h : eqOk d e = true
  · rw [if_pos h]; exact ⟨fun z => ⟨h, z⟩, fun z => z.2⟩
  · rw [if_neg h]; exact ⟨fun z => z.elim, fun z => h z.1⟩
@[simp] theorem WO_gNe : WO' X (gNe d e) P ↔ eqOk d e = true ∧ P (.bl (!eqD d e)) := by
  unfold gNe
  by_cases h : eqOk d e = true
  · rw [if_pos h]; exact ⟨fun z => ⟨h, z⟩, fun z => z.2⟩
  · rw [if_neg h]; exact ⟨fun z => z.elim, fun z => h z.1⟩
@[simp] theorem gInS_eq {neg : Bool} {c : Nat} {cs : List Nat} : gIn neg (.str [c]) (.str cs) = .ok (.bl (cs.contains c != neg)) := rfl
@[simp] theorem WO_gInL {neg b : Bool} {xs : List D} : WO' X (gIn neg d (.lst b xs)) P ↔ (plainD d && plainDs xs && dle 60 d) = true ∧ P (.bl (inD d xs != neg)) := by
  show WO' X (if _ then _ else _) P ↔ _
  by_cases h : (plainD d && plainDs xs && dle 60 d) = true
  · rw [if_pos h]; exact ⟨fun z => ⟨h, z⟩, fun z => z.2⟩
  · rw [if_neg h]; exact ⟨fun z => z.elim, fun z => h z.1⟩
@[simp] theorem WO_gInT {neg : Bool} {xs : List D} : WO' X (gIn neg d (.tup xs)) P ↔ (plainD d && plainDs xs && dle 60 d) = true ∧ P (.bl (inD d xs != neg)) := by
  show WO' X (if _ then _ else _) P ↔ _
  by_cases h : (plainD d && plainDs xs && dle 60 d) = true
  · rw [if_pos h]; exact ⟨fun z => ⟨h, z⟩, fun z => z.2⟩
  · rw [if_neg h]; exact ⟨fun z => z.elim, fun z => h z.1⟩
@[simp] theorem WO_ofO {α : Type} {o : Option α} {P : α → Prop} : WO' X (ofO o) P ↔ ∃ a, o = some a ∧ P a := by
  cases o with
  | none => exact ⟨fun z => z.elim, fun ⟨_, z, _⟩ => nomatch z⟩
  | some a => exact ⟨fun z => ⟨a, rfl, z⟩, fun ⟨b, e, z⟩ => by cases e; exact z⟩
@[simp] theorem gIxL_eq {b : Bool} {xs : List D} : gIx (.lst b xs) (.int i) = ofO (atI xs i) := rfl
@[simp] theorem gIxT_eq {xs : List D} : gIx (.tup xs) (.int i) = ofO (atI xs i) := rfl
@[simp] theorem gIxR_eq {ns : List Int} : gIx (.scr ns) (.int i) = ofO ((atI ns i).map fun n => .int n) := rfl
@[simp] theorem gIxS_eq {cs : List Nat} : gIx (.str cs) (.int i) = if cs.length ≤ 1000000 then ofO ((atI cs i).map fun c => .str [c]) else .bad := rfl
@[simp] theorem gLenS_eq {cs : List Nat} : gLen (.str cs) = if cs.length ≤ 1000000 then .ok (.int cs.length) else .bad := rfl
@[simp] theorem gLenL_eq {b : Bool} {xs : List D} : gLen (.lst b xs) = .ok (.int xs.length) := rfl
@[simp] theorem gLenT_eq {xs : List D} : gLen (.tup xs) = .ok (.int xs.length) := rfl
@[simp] theorem gLenR_eq {ns : List Int} : gLen (.scr ns) = .ok (.int ns.length) := rfl
theorem atI_pos {α : Type} {xs : List α} (h0 : 0 ≤ i) (h1 : i < xs.length) : atI xs i = xs[i.toNat]? := by
  unfold atI ixN
  rw [if_pos h0, if_pos h1]
  rfl
theorem WO_at {α : Type} {xs : List α} (h0 : 0 ≤ i) (h1 : i < xs.length) : ∃ a, atI xs i = some a ∧ a ∈ xs := by
  rw [atI_pos h0 h1]
  have : i.toNat < xs.length := by omega
  exact ⟨xs[i.toNat], by simp [this], List.getElem_mem _⟩
end
end DL

namespace DL
open PySem L2
variable {X : Xc → Env → Prop}
section
variable {r : Env} {P : D → Prop} {N : Env → Prop} {R : D → Env → Prop} {fa fb fc : F} {o : Option D} {d e x y : D} {i j : Int} {xs : List D}
@[simp] theorem WS_put {i : Nat} {f fk : FX} : WS' X (sPut i f fk r) N R ↔ WO' X (f r) fun p => ∃ d, p.2[i]? = some (some d) ∧ WO' X (fk p.2) fun q => ∃ k ds j, q.1 = .int k ∧ q.2[i]? = some (some (.lst true ds)) ∧ ixN ds.length k = some j ∧ N (q.2.set i (some (.lst true (ds.set j (frz p.1))))) := by
  unfold sPut
  cases f r with
  | ok p =>
    show WS' X (match p.2[i]? with | some (some _) => _ | _ => _) N R ↔ ∃ d, p.2[i]? = some (some d) ∧ _
    split
    · rename_i d0 h0
      cases hk : fk p.2 with
      | ok q =>
        have key : ∀ (q1 : D) (q2 : Env), WS' X (match q1, q2[i]? with
          | .int k, some (some (.lst true ds)) => (match ixN ds.length k with
            | some j => .nx (q2.set i (some (.lst true (ds.set j (frz p.1)))))
            | none => .bad)
          | _, _ => .bad : SO) N R ↔ ∃ k ds j, q1 = .int k ∧ q2[i]? = some (some (.lst true ds)) ∧ ixN ds.length k = some j ∧ N (q2.set i (some (.lst true (ds.set j (frz p.1))))) := by
          intro q1 q2
          generalize hq : q2[i]? = o
          split
          · rename_i k ds
            constructor
            · intro z
              split at z
              · rename_i j hj; exact ⟨k, ds, j, rfl, rfl, hj, z⟩
              · exact z.elim
            · rintro ⟨k', ds', j, f1, f2, f3, z⟩
              cases f1
              cases f2
              rw [f3]; exact z
          · rename_i hno
            exact ⟨fun z => z.elim, fun ⟨k', ds', j, f1, f2, f3, z⟩ => (hno k' ds' f1 f2).elim⟩
        exact ⟨fun z => ⟨d0, h0, (key q.1 q.2).mp z⟩, fun ⟨_, _, z⟩ => (key q.1 q.2).mpr z⟩
      | exn _ _ => exact ⟨fun z => ⟨d0, h0, z⟩, fun ⟨_, _, z⟩ => z⟩
      | bad => exact ⟨fun z => z.elim, fun ⟨_, _, z⟩ => z.elim⟩
    · rename_i hno
      exact ⟨fun z => z.elim, fun ⟨d, z, _⟩ => (hno d z).elim⟩
  | exn _ _ => exact Iff.rfl
  | bad => exact Iff.rfl
theorem ixN_pos {n : Nat} (h0 : 0 ≤ i) (h1 : i < n) : ixN n i = some i.toNat := by
  unfold ixN
  rw [if_pos h0, if_pos h1]
@[simp] theorem atI_zero {α : Type} {x : α} {xs : List α} : atI (x :: xs) 0 = some x := by
  rw [atI_pos (by omega) (by rw [List.length_cons]; omega)]; rfl
@[simp] theorem atI_one {α : Type} {x y : α} {xs : List α} : atI (x :: y :: xs) 1 = some y := by
  rw [atI_pos (by omega) (by simp only [List.length_cons]; omega)]; rfl
@[simp] theorem atI_two {α : Type} {x y z : α} {xs : List α} : atI (x :: y :: z :: xs) 2 = some z := by
  rw [atI_pos (by omega) (by simp only [List.length_cons]; omega)]; rfl
@[simp] theorem ixN_zero {n : Nat} : ixN (n + 1) 0 = some 0 := by rw [ixN_pos (by omega) (by omega)]; rfl
@[simp] theorem ixN_one {n : Nat} : ixN (n + 2) 1 = some 1 := by rw [ixN_pos (by omega) (by omega)]; rfl
@[simp] theorem iL_eq : iL fa r = (fa r).bind fun d => match d with | .lst _ xs => .ok xs | _ => .bad := rfl
@[simp] theorem iT_eq : iT fa r = (fa r).bind fun d => match d with | .tup xs => .ok xs | _ => .bad := rfl
@[simp] theorem iS_eq : iS fa r = (fa r).bind fun d => match d with | .str cs => .ok (cs.map fun c => .str [c]) | _ => .bad := rfl
@[simp] theorem len_rng {lo : Int} {n : Nat} : (rng lo n).length = n := by unfold rng; simp
@[simp] theorem WO_iR1 {fs : Env → Out (List D)} {P : List D → Prop} : WO' X (iR1 fs r) P ↔ WO' X (fs r) fun ds => ∃ j, ds = [.int j] ∧ (-1000000 ≤ j ∧ j ≤ 1000000) ∧ P (rng 0 j.toNat) := by
  unfold iR1
  rw [WO_bind]
  have : ∀ ds : List D, WO' X (match ds with
    | [.int j] => if -1000000 ≤ j ∧ j ≤ 1000000 then .ok (rng 0 j.toNat) else .bad
    | _ => .bad : Out (List D)) P ↔ ∃ j, ds = [.int j] ∧ (-1000000 ≤ j ∧ j ≤ 1000000) ∧ P (rng 0 j.toNat) := by
    intro ds
    split
    · rename_i j
      by_cases h : -1000000 ≤ j ∧ j ≤ 1000000
      · rw [if_pos h]; exact ⟨fun z => ⟨j, rfl, h, z⟩, fun ⟨j', e, _, z⟩ => by cases e; exact z⟩
      · rw [if_neg h]; exact ⟨fun z => z.elim, fun ⟨j', e, h', z⟩ => by cases e; exact (h h').elim⟩
    · rename_i hno; exact ⟨fun z => z.elim, fun ⟨j, z, _⟩ => hno j z⟩
  exact ⟨fun z => z.mono fun p => (this p).mp, fun z => z.mono fun p => (this p).mpr⟩
@[simp] theorem WO_iR2 {fs : Env → Out (List D)} {P : List D → Prop} : WO' X (iR2 fs r) P ↔ WO' X (fs r) fun ds => ∃ i j, ds = [.int i, .int j] ∧ ((-1000000 ≤ i ∧ i ≤ 1000000) ∧ -1000000 ≤ j ∧ j ≤ 1000000) ∧ P (rng i (j - i).toNat) := by
  unfold iR2
  rw [WO_bind]
  have : ∀ ds : List D, WO' X (match ds with
    | [.int i, .int j] => if (-1000000 ≤ i ∧ i ≤ 1000000) ∧ -1000000 ≤ j ∧ j ≤ 1000000 then .ok (rng i (j - i).toNat) else .bad
    | _ => .bad : Out (List D)) P ↔ ∃ i j, ds = [.int i, .int j] ∧ ((-1000000 ≤ i ∧ i ≤ 1000000) ∧ -1000000 ≤ j ∧ j ≤ 1000000) ∧ P (rng i (j - i).toNat) := by
    intro ds
    split
    · rename_i i j
      by_cases h : (-1000000 ≤ i ∧ i ≤ 1000000) ∧ -1000000 ≤ j ∧ j ≤ 1000000
      · rw [if_pos h]; exact ⟨fun z => ⟨i, j, rfl, h, z⟩, fun ⟨i', j', e, _, z⟩ => by cases e; exact z⟩
      · rw [if_neg h]; exact ⟨fun z => z.elim, fun ⟨i', j', e, h', z⟩ => by cases e; exact (h h').elim⟩
    · rename_i hno; exact ⟨fun z => z.elim, fun ⟨i, j, z, _⟩ => hno i j z⟩
  exact ⟨fun z => z.mono fun p => (this p).mp, fun z => z.mono fun p => (this p).mpr⟩
@[simp] theorem WO_iXR1 {fs : Env → Out (List D × Env)} {P : List D × Env → Prop} : WO' X (iXR1 fs r) P ↔ WO' X (fs r) fun p => ∃ j, p.1 = [.int j] ∧ (-1000000 ≤ j ∧ j ≤ 1000000) ∧ P (rng 0 j.toNat, p.2) := by
  unfold iXR1
  rw [WO_bind]
  have : ∀ p : List D × Env, WO' X (match p.1 with
    | [.int j] => if -1000000 ≤ j ∧ j ≤ 1000000 then .ok (rng 0 j.toNat, p.2) else .bad
    | _ => .bad : Out (List D × Env)) P ↔ ∃ j, p.1 = [.int j] ∧ (-1000000 ≤ j ∧ j ≤ 1000000) ∧ P (rng 0 j.toNat, p.2) := by
    intro ⟨ds, r'⟩
    dsimp only
    split
    · rename_i j
      by_cases h : -1000000 ≤ j ∧ j ≤ 1000000
      · rw [if_pos h]; exact ⟨fun z => ⟨j, rfl, h, z⟩, fun ⟨j', e, _, z⟩ => by cases e; exact z⟩
      · rw [if_neg h]; exact ⟨fun z => z.elim, fun ⟨j', e, h', z⟩ => by cases e; exact (h h').elim⟩
    · rename_i hno; exact ⟨fun z => z.elim, fun ⟨j, z, _⟩ => hno j z⟩
  exact ⟨fun z => z.mono fun p => (this p).mp, fun z => z.mono fun p => (this p).mpr⟩
@[simp] theorem WO_iXR2 {fs : Env → Out (List D × Env)} {P : List D × Env → Prop} : WO' X (iXR2 fs r) P ↔ WO' X (fs r) fun p => ∃ i j, p.1 = [.int i, .int j] ∧ ((-1000000 ≤ i ∧ i ≤ 1000000) ∧ -1000000 ≤ j ∧ j ≤ 1000000) ∧ P (rng i (j - i).toNat, p.2) := by
  unfold iXR2
  rw [WO_bind]
  have : ∀ p : List D × Env, WO' X (match p.1 with
    | [.int i, .int j] => if (-1000000 ≤ i ∧ i ≤ 1000000) ∧ -1000000 ≤ j ∧ j ≤ 1000000 then .ok (rng i (j - i).toNat, p.2) else .bad
    | _ => .bad : Out (List D × Env)) P ↔ ∃ i j, p.1 = [.int i, .int j] ∧ ((-1000000 ≤ i ∧ i ≤ 1000000) ∧ -1000000 ≤ j ∧ j ≤ 1000000) ∧ P (rng i (j - i).toNat, p.2) := by
    intro ⟨ds, r'⟩
    dsimp only
    split
    · rename_i i j
      by_cases h : (-1000000 ≤ i ∧ i ≤ 1000000) ∧ -1000000 ≤ j ∧ j ≤ 1000000
      · rw [if_pos h]; exact ⟨fun z => ⟨i, j, rfl, h, z⟩, fun ⟨i', j', e, _, z⟩ => by cases e; exact z⟩
      · rw [if_neg h]; exact ⟨fun z => z.elim, fun ⟨i', j', e, h', z⟩ => by cases e; exact (h h').elim⟩
    · rename_i hno; exact ⟨fun z => z.elim, fun ⟨i, j, z, _⟩ => hno i j z⟩
  exact ⟨fun z => z.mono fun p => (this p).mp, fun z => z.mono fun p => (this p).mpr⟩
theorem WO_cLcM {α : Type} {it : Env → Out (List D)} {vs : List Nat} {g : D → Env → Out Env} {tt : Env → Out Bool} {el : F} (f : α → D) (k : α → D) (as : List α) (h : WO' XF (it r) fun ds => ds = as.map f) (hl : as.length ≤ 1000000) (h1 : ∀ a ∈ as, WO' XF (turn vs g tt el r (f a)) fun o => o = some (k a)) (hp : P (.lst true (as.map k))) : WO' X (cLc it vs g tt el r) P := by
  have e : it r = .ok (as.map f) := h.eq
  unfold cLc
  rw [e]
  show WO' X (if (as.map f).length ≤ 1000000 then _ else _) P
  rw [List.length_map, if_pos hl]
  have : ∀ as : List α, (∀ a ∈ as, turn vs g tt el r (f a) = .ok (some (k a))) → turns (turn vs g tt el r) (as.map f) = .ok (as.map k) := by
    intro as
    induction as with
    | nil => intro _; rfl
    | cons a as ih =>
      intro h1
      rw [List.map_cons, List.map_cons]
      unfold turns
      rw [h1 a (List.mem_cons_self ..), ih fun x hx => h1 x (List.mem_cons_of_mem _ hx)]
      rfl
  rw [this as fun a ha => (h1 a ha).eq]
  exact hp
@[simp] theorem turn_eq {vs : List Nat} {g : D → Env → Out Env} {tt : Env → Out Bool} {el : F} : turn vs g tt el r d = (g d (wipeE r vs)).bind fun r2 => (tt r2).bind fun b => if b = true then (el r2).bind fun y => .ok (some y) else .ok none := rfl
theorem WO_xturns {gg : D → Env → Out Env} {tt : Env → Out (Bool × Env)} {el : FX} (I : List D → List D → Env → Prop) : ∀ (ds acc : List D) (r : Env), I acc ds r → (∀ acc d ds r, I acc (d :: ds) r → WO' XF (gg d r) fun r1 => WO' XF (tt r1) fun q => if q.1 = true then WO' XF (el q.2) fun y => I (acc ++ [y.1]) ds y.2 else I acc ds q.2) → WO' XF (xturns gg tt el ds r) fun z => I (acc ++ z.1) [] z.2
  | [], acc, r, h, _ => by show I (acc ++ []) [] r; rw [List.append_nil]; exact h
  | d :: ds, acc, r, h, h1 => by
    unfold xturns
    rw [WO_bind]
    refine (h1 acc d ds r h).mono fun r1 z => ?_
    rw [WO_bind]
    refine z.mono fun q z => ?_
    by_cases hq : q.1 = true
    · rw [if_pos hq] at z ⊢
      rw [WO_bind]
      refine z.mono fun y z => ?_
      rw [WO_bind]
      refine (WO_xturns I ds _ _ z h1).mono fun w z => ?_
      show I (acc ++ (y.1 :: w.1)) [] w.2
      rw [List.append_cons]
      exact z
    · rw [if_neg hq] at z ⊢
      exact WO_xturns I ds _ _ z h1
theorem WO_xLc {it : Env → Out (List D × Env)} {vs : List Nat} {gg : D → Env → Out Env} {tt : Env → Out (Bool × Env)} {el : FX} {P : D × Env → Prop} (I : List D → List D → Env → Prop) (h0 : WO' X (it r) fun p => p.1.length ≤ 1000000 ∧ I [] p.1 p.2) (h1 : ∀ acc d ds r, I acc (d :: ds) r → WO' XF (gg d (wipeE r vs)) fun r1 => WO' XF (tt r1) fun q => if q.1 = true then WO' XF (el q.2) fun y => I (acc ++ [y.1]) ds y.2 else I acc ds q.2) (h2 : ∀ ys r, I ys [] r → P (.lst true ys, wipeE r vs)) : WO' X (xLc it vs gg tt el r) P := by
  unfold xLc
  rw [WO_bind]
  refine h0.mono fun p ⟨h3, h4⟩ => ?_
  rw [if_pos h3, WO_bind, WO_safe]
  refine (WO_xturns I _ _ _ h4 h1).mono fun z h5 => ?_
  rw [List.nil_append] at h5
  exact h2 _ _ h5
@[simp] theorem wipeE_nil : wipeE r [] = r := rfl
@[simp] theorem wipeE_cons {v : Nat} {vs : List Nat} : wipeE r (v :: vs) = (wipeE r vs).set v none := rfl
@[simp] theorem xYes_eq : xYes r = .ok (true, r) := rfl
@[simp] theorem tYes_eq : tYes' r = .ok true := rfl
@[simp] theorem cSl_eq {g : D → Option Int → Option Int → Out D} {l h : Env → Out (Option Int)} : cSl g fa l h r = (fa r).bind fun d => (l r).bind fun i => (h r).bind fun j => g d i j := rfl
@[simp] theorem oNone_eq : oNone r = .ok none := rfl
@[simp] theorem oSome_eq : oSome fa r = (fa r).bind fun d => (isI d).bind fun i => .ok (some i) := rfl
@[simp] theorem isI_eq : isI (.int i) = .ok i := rfl
@[simp] theorem gSlS_eq {cs : List Nat} {l h : Option Int} : gSlS (.str cs) l h = if cs.length ≤ 1000000 then .ok (.str (cut cs l h)) else .bad := rfl
@[simp] theorem gSlStr_eq {cs : List Nat} {l h : Option Int} : gSl (.str cs) l h = if cs.length ≤ 1000000 then .ok (.str (cut cs l h)) else .bad := rfl
@[simp] theorem gSlL_eq {b : Bool} {l h : Option Int} : gSl (.lst b xs) l h = .ok (.lst true (cut xs l h)) := rfl
@[simp] theorem strsD_map (xs : List (List Nat)) : strsD (xs.map D.str) = some xs := by
  induction xs with
  | nil => rfl
  | cons x xs ih => show (strsD (xs.map D.str)).map _ = _; rw [ih]; rfl
@[simp] theorem blsD_map (xs : List Bool) : blsD (xs.map D.bl) = some xs := by
  induction xs with
  | nil => rfl
  | cons x xs ih => show (blsD (xs.map D.bl)).map _ = _; rw [ih]; rfl
theorem joinL_nil (xs : List (List Nat)) : joinL [] xs = xs.flatten := by
  cases xs with
  | nil => rfl
  | cons x xs => show x ++ (xs.map fun y => [] ++ y).flatten = _; simp
theorem flat_ones (cs : List Nat) : (cs.map fun c => [c]).flatten = cs := by
  induction cs with
  | nil => rfl
  | cons c cs ih => show c :: (cs.map fun c => [c]).flatten = _; rw [ih]
theorem lenSum_ones (cs : List Nat) : lenSum (cs.map fun c => [c]) = cs.length := by
  induction cs with
  | nil => rfl
  | cons c cs ih => show 1 + lenSum (cs.map fun c => [c]) = _; rw [ih, List.length_cons]; omega
@[simp] theorem strsD_ones (cs : List Nat) : strsD (cs.map fun c => D.str [c]) = some (cs.map fun c => [c]) := by
  induction cs with
  | nil => rfl
  | cons x xs ih => show (strsD (xs.map fun c => D.str [c])).map _ = _; rw [ih]; rfl
@[simp] theorem frzs_ones (cs : List Nat) : frzs (cs.map fun c => D.str [c]) = cs.map fun c => D.str [c] := by
  rw [frzs_map, List.map_map]; rfl
@[simp] theorem frzs_bls (cs : List Bool) : frzs (cs.map D.bl) = cs.map D.bl := by
  rw [frzs_map, List.map_map]; rfl
@[simp] theorem WO_join0 {b : Bool} {cs : List Nat} : WO' X (gJoin (.str []) (.lst b (cs.map fun c => D.str [c]))) P ↔ cs.length ≤ 1000000 ∧ P (.str cs) := by
  show WO' X (match strsD (cs.map fun c => D.str [c]) with | some xs => _ | none => _) P ↔ _
  rw [strsD_ones]
  show WO' X (if lenSum (cs.map fun c => [c]) + _ * 0 ≤ 1000000 then .ok (.str (joinL [] (cs.map fun c => [c]))) else .bad) P ↔ _
  rw [lenSum_ones, joinL_nil, flat_ones, Nat.mul_zero, Nat.add_zero]
  by_cases h : cs.length ≤ 1000000
  · rw [if_pos h]; exact ⟨fun z => ⟨h, z⟩, fun z => z.2⟩
  · rw [if_neg h]; exact ⟨fun z => z.elim, fun z => h z.1⟩
@[simp] theorem WO_ifbad {α : Type} {c : Prop} [Decidable c] {o : Out α} {P : α → Prop} : WO' X (if c then o else .bad) P ↔ c ∧ WO' X o P := by
  by_cases h : c
  · rw [if_pos h]; exact ⟨fun z => ⟨h, z⟩, fun z => z.2⟩
  · rw [if_neg h]; exact ⟨fun z => z.elim, fun z => h z.1⟩
@[simp] theorem WO_ite_tt {α : Type} {c : Prop} [Decidable c] {o o' : Out α} {P : α → Prop} : WO' X (if c then o else o') P ↔ if c then WO' X o P else WO' X o' P := WO_if
@[simp] theorem gListL_eq {b : Bool} : gList (.lst b xs) = .ok (.lst true xs) := rfl
@[simp] theorem gListS_eq {cs : List Nat} : gList (.str cs) = if cs.length ≤ 1000000 then .ok (.lst true (cs.map fun c => .str [c])) else .bad := rfl
end
end DL

namespace DL
open PySem L2
variable {X : Xc → Env → Prop}
@[simp] theorem isi_int_non  : gIsi .int .non = .ok (.bl false) := rfl
@[simp] theorem isi_int_bl {b : Bool} : gIsi .int (.bl b) = .ok (.bl true) := rfl
@[simp] theorem isi_int_int {i : Int} : gIsi .int (.int i) = .ok (.bl true) := rfl
@[simp] theorem isi_int_str {cs : List Nat} : gIsi .int (.str cs) = .ok (.bl false) := rfl
@[simp] theorem isi_int_lst {b : Bool} {xs : List D} : gIsi .int (.lst b xs) = .ok (.bl false) := rfl
@[simp] theorem isi_int_tup {xs : List D} : gIsi .int (.tup xs) = .ok (.bl false) := rfl
@[simp] theorem isi_int_dK {b : Bool} {ks : List Key} {xs : List D} : gIsi .int (.dK b ks xs) = .ok (.bl false) := rfl
@[simp] theorem isi_int_obj {b : Bool} {c : Str} {ks : List Str} {xs : List D} : gIsi .int (.obj b c ks xs) = .ok (.bl false) := rfl
@[simp] theorem isi_bool_non  : gIsi .bool .non = .ok (.bl false) := rfl
@[simp] theorem isi_bool_bl {b : Bool} : gIsi .bool (.bl b) = .ok (.bl true) := rfl
@[simp] theorem isi_bool_int {i : Int} : gIsi .bool (.int i) = .ok (.bl false) := rfl
@[simp] theorem isi_bool_str {cs : List Nat} : gIsi .bool (.str cs) = .ok (.bl false) := rfl
@[simp] theorem isi_bool_lst {b : Bool} {xs : List D} : gIsi .bool (.lst b xs) = .ok (.bl false) := rfl
@[simp] theorem isi_bool_tup {xs : List D} : gIsi .bool (.tup xs) = .ok (.bl false) := rfl
@[simp] theorem isi_bool_dK {b : Bool} {ks : List Key} {xs : List D} : gIsi .bool (.dK b ks xs) = .ok (.bl false) := rfl
@[simp] theorem isi_bool_obj {b : Bool} {c : Str} {ks : List Str} {xs : List D} : gIsi .bool (.obj b c ks xs) = .ok (.bl false) := rfl
@[simp] theorem isi_str_non  : gIsi .str .non = .ok (.bl false) := rfl
@[simp] theorem isi_str_bl {b : Bool} : gIsi .str (.bl b) = .ok (.bl false) := rfl
@[simp] theorem isi_str_int {i : Int} : gIsi .str (.int i) = .ok (.bl false) := rfl
@[simp] theorem isi_str_str {cs : List Nat} : gIsi .str (.str cs) = .ok (.bl true) := rfl
@[simp] theorem isi_str_lst {b : Bool} {xs : List D} : gIsi .str (.lst b xs) = .ok (.bl false) := rfl
@[simp] theorem isi_str_tup {xs : List D} : gIsi .str (.tup xs) = .ok (.bl false) := rfl
@[simp] theorem isi_str_dK {b : Bool} {ks : List Key} {xs : List D} : gIsi .str (.dK b ks xs) = .ok (.bl false) := rfl
@[simp] theorem isi_str_obj {b : Bool} {c : Str} {ks : List Str} {xs : List D} : gIsi .str (.obj b c ks xs) = .ok (.bl false) := rfl
@[simp] theorem isi_list_non  : gIsi .list .non = .ok (.bl false) := rfl
@[simp] theorem isi_list_bl {b : Bool} : gIsi .list (.bl b) = .ok (.bl false) := rfl
@[simp] theorem isi_list_int {i : Int} : gIsi .list (.int i) = .ok (.bl false) := rfl
@[simp] theorem isi_list_str {cs : List Nat} : gIsi .list (.str cs) = .ok (.bl false) := rfl
@[simp] theorem isi_list_lst {b : Bool} {xs : List D} : gIsi .list (.lst b xs) = .ok (.bl true) := rfl
@[simp] theorem isi_list_tup {xs : List D} : gIsi .list (.tup xs) = .ok (.bl false) := rfl
@[simp] theorem isi_list_dK {b : Bool} {ks : List Key} {xs : List D} : gIsi .list (.dK b ks xs) = .ok (.bl false) := rfl
@[simp] theorem isi_list_obj {b : Bool} {c : Str} {ks : List Str} {xs : List D} : gIsi .list (.obj b c ks xs) = .ok (.bl false) := rfl
@[simp] theorem isi_tuple_non  : gIsi .tuple .non = .ok (.bl false) := rfl
@[simp] theorem isi_tuple_bl {b : Bool} : gIsi .tuple (.bl b) = .ok (.bl false) := rfl
@[simp] theorem isi_tuple_int {i : Int} : gIsi .tuple (.int i) = .ok (.bl false) := rfl
@[simp] theorem isi_tuple_str {cs : List Nat} : gIsi .tuple (.str cs) = .ok (.bl false) := rfl
@[simp] theorem isi_tuple_lst {b : Bool} {xs : List D} : gIsi .tuple (.lst b xs) = .ok (.bl false) := rfl
@[simp] theorem isi_tuple_tup {xs : List D} : gIsi .tuple (.tup xs) = .ok (.bl true) := rfl
@[simp] theorem isi_tuple_dK {b : Bool} {ks : List Key} {xs : List D} : gIsi .tuple (.dK b ks xs) = .ok (.bl false) := rfl
@[simp] theorem isi_tuple_obj {b : Bool} {c : Str} {ks : List Str} {xs : List D} : gIsi .tuple (.obj b c ks xs) = .ok (.bl false) := rfl
@[simp] theorem isi_dict_non  : gIsi .dict .non = .ok (.bl false) := rfl
@[simp] theorem isi_dict_bl {b : Bool} : gIsi .dict (.bl b) = .ok (.bl false) := rfl
@[simp] theorem isi_dict_int {i : Int} : gIsi .dict (.int i) = .ok (.bl false) := rfl
@[simp] theorem isi_dict_str {cs : List Nat} : gIsi .dict (.str cs) = .ok (.bl false) := rfl
@[simp] theorem isi_dict_lst {b : Bool} {xs : List D} : gIsi .dict (.lst b xs) = .ok (.bl false) := rfl
@[simp] theorem isi_dict_tup {xs : List D} : gIsi .dict (.tup xs) = .ok (.bl false) := rfl
@[simp] theorem isi_dict_dK {b : Bool} {ks : List Key} {xs : List D} : gIsi .dict (.dK b ks xs) = .ok (.bl true) := rfl
@[simp] theorem isi_dict_obj {b : Bool} {c : Str} {ks : List Str} {xs : List D} : gIsi .dict (.obj b c ks xs) = .ok (.bl false) := rfl
@[simp] theorem plain_non : plainD .non = true := rfl
@[simp] theorem plain_bl {b : Bool} : plainD (.bl b) = true := rfl
@[simp] theorem plain_int {i : Int} : plainD (.int i) = true := rfl
@[simp] theorem plain_str {cs : List Nat} : plainD (.str cs) = true := rfl
@[simp] theorem plain_lst {b : Bool} {xs : List D} : plainD (.lst b xs) = plainDs xs := rfl
@[simp] theorem plain_tup {xs : List D} : plainD (.tup xs) = plainDs xs := rfl
@[simp] theorem plains_nil : plainDs [] = true := rfl
@[simp] theorem plains_cons {x : D} {xs : List D} : plainDs (x :: xs) = (plainD x && plainDs xs) := rfl
@[simp] theorem plains_ones {cs : List Nat} : plainDs (cs.map fun c => D.str [c]) = true := by
  induction cs with
  | nil => rfl
  | cons c cs ih => exact ih
@[simp] theorem plains_strs {cs : List (List Nat)} : plainDs (cs.map D.str) = true := by
  induction cs with
  | nil => rfl
  | cons c cs ih => exact ih
@[simp] theorem plains_ints {cs : List Int} : plainDs (cs.map D.int) = true := by
  induction cs with
  | nil => rfl
  | cons c cs ih => exact ih
@[simp] theorem dle_non {n : Nat} : dle n .non = true := by cases n <;> rfl
@[simp] theorem dle_bl {n : Nat} {b : Bool} : dle n (.bl b) = true := by cases n <;> rfl
@[simp] theorem dle_int {n : Nat} {i : Int} : dle n (.int i) = true := by cases n <;> rfl
@[simp] theorem dle_str {n : Nat} {cs : List Nat} : dle n (.str cs) = true := by cases n <;> rfl
@[simp] theorem dle_lst60 {b : Bool} {xs : List D} : dle 60 (.lst b xs) = dles 59 xs := rfl
@[simp] theorem dle_tup60 {xs : List D} : dle 60 (.tup xs) = dles 59 xs := rfl
@[simp] theorem dle_lst59 {b : Bool} {xs : List D} : dle 59 (.lst b xs) = dles 58 xs := rfl
@[simp] theorem dle_tup59 {xs : List D} : dle 59 (.tup xs) = dles 58 xs := rfl
@[simp] theorem dle_lst58 {b : Bool} {xs : List D} : dle 58 (.lst b xs) = dles 57 xs := rfl
@[simp] theorem dle_tup58 {xs : List D} : dle 58 (.tup xs) = dles 57 xs := rfl
@[simp] theorem dles_nil {n : Nat} : dles n [] = true := by cases n <;> rfl
@[simp] theorem dles_cons {n : Nat} {x : D} {xs : List D} : dles n (x :: xs) = (dle n x && dles n xs) := by cases n <;> rfl
@[simp] theorem dles_ones {n : Nat} {cs : List Nat} : dles n (cs.map fun c => D.str [c]) = true := by
  induction cs with
  | nil => exact dles_nil
  | cons c cs ih => rw [List.map_cons, dles_cons, ih, dle_str]; rfl
@[simp] theorem dles_strs {n : Nat} {cs : List (List Nat)} : dles n (cs.map D.str) = true := by
  induction cs with
  | nil => exact dles_nil
  | cons c cs ih => rw [List.map_cons, dles_cons, ih, dle_str]; rfl
@[simp] theorem dles_ints {n : Nat} {cs : List Int} : dles n (cs.map D.int) = true := by
  induction cs with
  | nil => exact dles_nil
  | cons c cs ih => rw [List.map_cons, dles_cons, ih, dle_int]; rfl
@[simp] theorem eqs_n {xs : List D} : eqDs xs [] = xs.isEmpty := by cases xs <;> rfl
@[simp] theorem eqOk_eq {x y : D} : eqOk x y = (plainD x && plainD y && dle 60 x) := rfl
@[simp] theorem eqs_nil : eqDs [] [] = true := rfl
@[simp] theorem eqs_cons {x y : D} {xs ys : List D} : eqDs (x :: xs) (y :: ys) = (eqD x y && eqDs xs ys) := rfl
@[simp] theorem eqs_nc {x : D} {xs : List D} : eqDs [] (x :: xs) = false := rfl
@[simp] theorem eqs_cn {x : D} {xs : List D} : eqDs (x :: xs) [] = false := rfl
@[simp] theorem eqD_bb {a b : Bool} : eqD (.bl a) (.bl b) = (a == b) := rfl
@[simp] theorem eqD_bi {a : Bool} {j : Int} : eqD (.bl a) (.int j) = ((if a then 1 else 0) == j) := rfl
@[simp] theorem eqD_ib {a : Int} {b : Bool} : eqD (.int a) (.bl b) = (a == (if b then 1 else 0)) := rfl
@[simp] theorem eqD_ii {a b : Int} : eqD (.int a) (.int b) = (a == b) := rfl
@[simp] theorem eqD_ss {x y : List Nat} : eqD (.str x) (.str y) = (x == y) := rfl
@[simp] theorem eqD_ll {a b : Bool} {x y : List D} : eqD (.lst a x) (.lst b y) = eqDs x y := rfl
@[simp] theorem eqD_tt {x y : List D} : eqD (.tup x) (.tup y) = eqDs x y := rfl
@[simp] theorem inD_eq {x : D} {xs : List D} : inD x xs = xs.any fun y => eqD y x := rfl
section
variable {b b2 : Bool} {i i2 : Int} {cs cs2 : List Nat} {xs xs2 : List D}
@[simp] theorem eqD_nn : eqD .non .non = true := rfl
@[simp] theorem eqD_non_bl : eqD .non (.bl b2) = false := rfl
@[simp] theorem eqD_non_int : eqD .non (.int i2) = false := rfl
@[simp] theorem eqD_non_str : eqD .non (.str cs2) = false := rfl
@[simp] theorem eqD_non_lst : eqD .non (.lst b2 xs2) = false := rfl
@[simp] theorem eqD_non_tup : eqD .non (.tup xs2) = false := rfl
@[simp] theorem eqD_bl_non : eqD (.bl b) .non = false := rfl
@[simp] theorem eqD_bl_str : eqD (.bl b) (.str cs2) = false := rfl
@[simp] theorem eqD_bl_lst : eqD (.bl b) (.lst b2 xs2) = false := rfl
@[simp] theorem eqD_bl_tup : eqD (.bl b) (.tup xs2) = false := rfl
@[simp] theorem eqD_int_non : eqD (.int i) .non = false := rfl
@[simp] theorem eqD_int_str : eqD (.int i) (.str cs2) = false := rfl
@[simp] theorem eqD_int_lst : eqD (.int i) (.lst b2 xs2) = false := rfl
@[simp] theorem eqD_int_tup : eqD (.int i) (.tup xs2) = false := rfl
@[simp] theorem eqD_str_non : eqD (.str cs) .non = false := rfl
@[simp] theorem eqD_str_bl : eqD (.str cs) (.bl b2) = false := rfl
@[simp] theorem eqD_str_int : eqD (.str cs) (.int i2) = false := rfl
@[simp] theorem eqD_str_lst : eqD (.str cs) (.lst b2 xs2) = false := rfl
@[simp] theorem eqD_str_tup : eqD (.str cs) (.tup xs2) = false := rfl
@[simp] theorem eqD_lst_non : eqD (.lst b xs) .non = false := rfl
@[simp] theorem eqD_lst_bl : eqD (.lst b xs) (.bl b2) = false := rfl
@[simp] theorem eqD_lst_int : eqD (.lst b xs) (.int i2) = false := rfl
@[simp] theorem eqD_lst_str : eqD (.lst b xs) (.str cs2) = false := rfl
@[simp] theorem eqD_lst_tup : eqD (.lst b xs) (.tup xs2) = false := rfl
@[simp] theorem eqD_tup_non : eqD (.tup xs) .non = false := rfl
@[simp] theorem eqD_tup_bl : eqD (.tup xs) (.bl b2) = false := rfl
@[simp] theorem eqD_tup_int : eqD (.tup xs) (.int i2) = false := rfl
@[simp] theorem eqD_tup_str : eqD (.tup xs) (.str cs2) = false := rfl
@[simp] theorem eqD_tup_lst : eqD (.tup xs) (.lst b2 xs2) = false := rfl
@[simp] theorem gNeg_eq : gNeg (.int i) = .ok (.int (-i)) := rfl
@[simp] theorem gCat_eq : gCat (.lst b xs) (.lst b2 xs2) = if xs.length + xs2.length ≤ 1000000 then .ok (.lst true (xs ++ xs2)) else .bad := rfl
@[simp] theorem gMulL_eq : gMulL (.lst b xs) (.int i) = if xs.length ≤ 1000 ∧ -1000 ≤ i ∧ i ≤ 1000 then .ok (.lst true (List.replicate i.toNat xs).flatten) else .bad := rfl
@[simp] theorem gMulT_eq : gMulT (.tup xs) (.int i) = if xs ≠ [] ∧ xs.length ≤ 1000 ∧ 1 ≤ i ∧ i ≤ 1000 then .ok (.tup (List.replicate i.toNat xs).flatten) else .bad := by
  unfold gMulT
  by_cases h : xs ≠ [] ∧ xs.length ≤ 1000 ∧ 1 ≤ i ∧ i ≤ 1000
  · rw [if_pos h]; exact if_pos h
  · rw [if_neg h]; exact if_neg h
@[simp] theorem gMx_eq : gMx [.int i, .int i2] = .ok (.int (if i2 > i then i2 else i)) := rfl
@[simp] theorem gMn_eq : gMn [.int i, .int i2] = .ok (.int (if i2 < i then i2 else i)) := rfl
@[simp] theorem gIsN_bb {neg : Bool} : gIsN neg (.bl b) (.bl b2) = .ok (.bl ((b == b2) != neg)) := rfl
@[simp] theorem gIsN_nn {neg : Bool} : gIsN neg .non .non = .ok (.bl (true != neg)) := rfl
@[simp] theorem gIsN_bn {neg : Bool} : gIsN neg (.bl b) .non = .ok (.bl (false != neg)) := rfl
@[simp] theorem gIsN_in {neg : Bool} : gIsN neg (.int i) .non = .ok (.bl (false != neg)) := rfl
@[simp] theorem gIsN_sn {neg : Bool} : gIsN neg (.str cs) .non = .ok (.bl (false != neg)) := rfl
@[simp] theorem gIsN_ln {neg : Bool} : gIsN neg (.lst b xs) .non = .ok (.bl (false != neg)) := rfl
@[simp] theorem gIsN_tn {neg : Bool} : gIsN neg (.tup xs) .non = .ok (.bl (false != neg)) := rfl
@[simp] theorem sT_eq {r : Env} {n : Nat} {gs : List D → Env → Out Env} : sT n gs (.tup xs) r = if xs.length = n then gs xs r else .bad := rfl
@[simp] theorem sCons_eq {r : Env} {d : D} {g : D → Env → Out Env} {gs : List D → Env → Out Env} : sCons g gs (d :: xs) r = (g d r).bind fun r1 => gs xs r1 := rfl
@[simp] theorem sNil_eq {r : Env} : sNil [] r = .ok r := rfl
end
end DL

namespace DL
open PySem L2
variable {X : Xc → Env → Prop}
def WT' (X : Xc → Env → Prop) (o : SO) (N C B : Env → Prop) (R : D → Env → Prop) : Prop := match o with
  | .nx r => N r
  | .ct r => C r
  | .bk r => B r
  | .rt d r => R d r
  | .exn x r => X x r
  | .bad => False
section
variable {r : Env} {N C B : Env → Prop} {R : D → Env → Prop} {f g : FS} {fx : FX}
theorem WB_iff {o : SO} : WB' X o N B R ↔ WT' X o N N B R := by cases o <;> exact Iff.rfl
theorem WT_iff {o : SO} (h : ∀ r, o ≠ .ct r) (h2 : ∀ r, o ≠ .bk r) : WT' X o N C B R ↔ WS' X o N R := by
  cases o with
  | ct r => exact (h r rfl).elim
  | bk r => exact (h2 r rfl).elim
  | _ => exact Iff.rfl
@[simp] theorem WT_seq : WT' X (sSeq f g r) N C B R ↔ WT' X (f r) (fun r1 => WT' X (g r1) N C B R) C B R := by
  unfold sSeq
  cases f r <;> exact Iff.rfl
@[simp] theorem WT_next : WT' X (sNext r) N C B R ↔ N r := Iff.rfl
@[simp] theorem WT_brk : WT' X (sBreak r) N C B R ↔ B r := Iff.rfl
@[simp] theorem WT_cnt : WT' X (sCont r) N C B R ↔ C r := Iff.rfl
@[simp] theorem WT_ret : WT' X (sRet fx r) N C B R ↔ WO' X (fx r) fun p => R p.1 p.2 := by
  unfold sRet
  cases fx r <;> exact Iff.rfl
@[simp] theorem WT_drop : WT' X (sDrop fx r) N C B R ↔ WO' X (fx r) fun p => N p.2 := by
  unfold sDrop
  cases fx r <;> exact Iff.rfl
@[simp] theorem WT_set {i : Nat} : WT' X (sSet i fx r) N C B R ↔ WO' X (fx r) fun p => i < p.2.length ∧ N (p.2.set i (some p.1)) := by
  rw [WT_iff, WS_set]
  · intro r'; unfold sSet; split
    · split <;> exact fun z => nomatch z
    · exact fun z => nomatch z
    · exact fun z => nomatch z
  · intro r'; unfold sSet; split
    · split <;> exact fun z => nomatch z
    · exact fun z => nomatch z
    · exact fun z => nomatch z
@[simp] theorem WT_put {i : Nat} {fk : FX} : WT' X (sPut i fx fk r) N C B R ↔ WO' X (fx r) fun p => ∃ d, p.2[i]? = some (some d) ∧ WO' X (fk p.2) fun q => ∃ k ds j, q.1 = .int k ∧ q.2[i]? = some (some (.lst true ds)) ∧ ixN ds.length k = some j ∧ N (q.2.set i (some (.lst true (ds.set j (frz p.1))))) := by
  have key : (∀ r', sPut i fx fk r ≠ .ct r') ∧ ∀ r', sPut i fx fk r ≠ .bk r' := by
    constructor <;> (intro r'; unfold sPut; repeat' split) <;> exact fun z => nomatch z
  rw [WT_iff key.1 key.2, WS_put]
@[simp] theorem WT_if {t : Env → Out (Bool × Env)} : WT' X (sIf t f g r) N C B R ↔ WO' X (t r) fun p => if p.1 = true then WT' X (f p.2) N C B R else WT' X (g p.2) N C B R := by
  unfold sIf
  cases t r with
  | ok p =>
    show WT' X (if p.1 = true then _ else _) N C B R ↔ if p.1 = true then _ else _
    split <;> exact Iff.rfl
  | _ => exact Iff.rfl
@[simp] theorem WS_forNil {tg : D → Env → Out Env} {body : FS} : WS' X (forS tg body [] r) N R ↔ N r := Iff.rfl
@[simp] theorem WS_forCons {tg : D → Env → Out Env} {body : FS} {d : D} {ds : List D} : WS' X (forS tg body (d :: ds) r) N R ↔ WO' XF (tg d r) fun r1 => WT' X (body r1) (fun r2 => WS' X (forS tg body ds r2) N R) (fun r2 => WS' X (forS tg body ds r2) N R) N R := by
  rw [forS]
  cases tg d r with
  | ok r1 =>
    show WS' X (match body r1 with | .nx r2 => _ | .ct r2 => _ | .bk r2 => _ | o => o) N R ↔ WT' X (body r1) _ _ _ _
    cases body r1 <;> exact Iff.rfl
  | _ => exact Iff.rfl
theorem WT_for {it : Env → Out (List D × Env)} {tg : D → Env → Out Env} {body : FS} : WT' X (sFor it tg body r) N C B R ↔ WO' X (it r) fun p => WS' X (forS tg body p.1 p.2) N R := by
  rw [WT_iff, WS_for]
  all_goals
    intro r'
    have key : ∀ (ds : List D) (r : Env), (∀ r', forS tg body ds r ≠ .ct r') ∧ ∀ r', forS tg body ds r ≠ .bk r' := by
      intro ds
      induction ds with
      | nil => intro r; exact ⟨fun _ z => (nomatch z), fun _ z => (nomatch z)⟩
      | cons d ds ih =>
        intro r
        rw [forS]
        split
        · split
          · exact ih _
          · exact ih _
          · exact ⟨fun _ z => (nomatch z), fun _ z => (nomatch z)⟩
          · rename_i h1 h2 h3
            exact ⟨fun r' z => h2 r' z, fun r' z => h3 r' z⟩
        · exact ⟨fun _ z => (nomatch z), fun _ z => (nomatch z)⟩
    unfold sFor
    cases it r with
    | ok p => first | exact (key _ _).1 r' | exact (key _ _).2 r'
    | _ => exact fun z => nomatch z
theorem WS_forT {tg : D → Env → Out Env} {body : FS} (I : List D → Env → Prop) {ds : List D} (h : I ds r) (h1 : ∀ d ds' r, I (d :: ds') r → WO' XF (tg d r) fun r1 => WT' X (body r1) (I ds') (I ds') N R) (h2 : ∀ r, I [] r → N r) : WS' X (forS tg body ds r) N R :=
  WS_forS I ds r h (fun d ds' r hi => (h1 d ds' r hi).mono fun r1 z => WB_iff.mpr z) h2
end
end DL

namespace DL
open PySem L2
variable {X : Xc → Env → Prop}
section
theorem WS_par {r : Env} {N : Env → Prop} {R : D → Env → Prop} {i j : Nat} {h : Env → Out (List D × Env)} : WS' X (sPar i j h r) N R ↔ WO' X (h r) fun p => ∃ a b, p.1 = [a, b] ∧ (i < p.2.length ∧ j < p.2.length) ∧ N ((p.2.set i (some a)).set j (some b)) := by
  unfold sPar
  cases h r with
  | ok p =>
    obtain ⟨l, q⟩ := p
    show WS' X (match l with | [a, b] => _ | _ => _) N R ↔ _
    split
    · rename_i a b
      show WS' X (if _ then _ else _) N R ↔ ∃ a' b', [a, b] = [a', b'] ∧ _
      by_cases hl : i < q.length ∧ j < q.length
      · rw [if_pos hl]; exact ⟨fun z => ⟨a, b, rfl, hl, z⟩, fun ⟨_, _, e, _, z⟩ => by cases e; exact z⟩
      · rw [if_neg hl]; exact ⟨fun z => z.elim, fun ⟨_, _, _, z, _⟩ => hl z⟩
    · rename_i hno
      exact ⟨fun z => z.elim, fun ⟨a, b, e, _⟩ => hno a b e⟩
  | _ => exact Iff.rfl
variable {r : Env} {N : Env → Prop} {R : D → Env → Prop} {f : FX}
theorem WS_aug {i : Nat} {gg : D → D → Out D} {d0 : D} (h : r[i]? = some (some d0)) (hs : isSc d0 = true) : WS' X (sAug i gg f r) N R ↔ WO' X (f r) fun p => WO' XF (gg d0 (frz p.1)) fun d => i < p.2.length ∧ N (p.2.set i (some d)) := by
  unfold sAug
  rw [h]
  simp only [hs, if_true]
  cases f r with
  | ok p =>
    show WS' X (match gg d0 (frz p.1) with | .ok d => _ | _ => _) N R ↔ WO' XF (gg d0 (frz p.1)) _
    cases gg d0 (frz p.1) with
    | ok d =>
      show WS' X (if i < p.2.length then _ else _) N R ↔ _
      by_cases hl : i < p.2.length
      · rw [if_pos hl]; exact ⟨fun z => ⟨hl, z⟩, fun z => z.2⟩
      · rw [if_neg hl]; exact ⟨fun z => z.elim, fun z => hl z.1⟩
    | _ => exact Iff.rfl
  | _ => exact Iff.rfl
end
section
variable {r : Env} {N C B : Env → Prop} {R : D → Env → Prop} {f : FX} {P : List D → Prop}
theorem WT_aug {i : Nat} {gg : D → D → Out D} {d0 : D} (h : r[i]? = some (some d0)) (hs : isSc d0 = true) : WT' X (sAug i gg f r) N C B R ↔ WO' X (f r) fun p => WO' XF (gg d0 (frz p.1)) fun d => i < p.2.length ∧ N (p.2.set i (some d)) := by
  have key : (∀ r', sAug i gg f r ≠ .ct r') ∧ ∀ r', sAug i gg f r ≠ .bk r' := by
    constructor <;> (intro r'; unfold sAug; repeat' split) <;> exact fun z => nomatch z
  rw [WT_iff key.1 key.2, WS_aug h hs]
theorem WT_par {i j : Nat} {h : Env → Out (List D × Env)} : WT' X (sPar i j h r) N C B R ↔ WO' X (h r) fun p => ∃ a b, p.1 = [a, b] ∧ (i < p.2.length ∧ j < p.2.length) ∧ N ((p.2.set i (some a)).set j (some b)) := by
  have key : (∀ r', sPar i j h r ≠ .ct r') ∧ ∀ r', sPar i j h r ≠ .bk r' := by
    constructor <;> (intro r'; unfold sPar; repeat' split) <;> exact fun z => nomatch z
  rw [WT_iff key.1 key.2, WS_par]
@[simp] theorem WO_iZpSS {fs : Env → Out (List D)} {a b : List Nat} (h : fs r = .ok [.str a, .str b]) : WO' X (iZp fs r) P ↔ P ((a.zip b).map fun p => .tup [.str [p.1], .str [p.2]]) := by
  unfold iZp
  rw [h]
  show P _ ↔ _
  rw [List.zip_map, List.map_map]
  exact Iff.rfl
@[simp] theorem WO_iZpLL {fs : Env → Out (List D)} {o o' : Bool} {a b : List D} (h : fs r = .ok [.lst o a, .lst o' b]) : WO' X (iZp fs r) P ↔ P ((a.zip b).map fun p => .tup [p.1, p.2]) := by
  unfold iZp
  rw [h]
  exact Iff.rfl
@[simp] theorem WO_iEnS {fs : Env → Out (List D)} {a : List Nat} (h : fs r = .ok [.str a]) : WO' X (iEn fs r) P ↔ P (a.zipIdx.map fun p => .tup [.int (p.2 : Nat), .str [p.1]]) := by
  unfold iEn
  rw [h]
  show P (enumD _) ↔ _
  unfold enumD
  rw [List.zipIdx_map, List.map_map]
  exact Iff.rfl
@[simp] theorem WO_iEnL {fs : Env → Out (List D)} {o : Bool} {a : List D} (h : fs r = .ok [.lst o a]) : WO' X (iEn fs r) P ↔ P (a.zipIdx.map fun p => .tup [.int (p.2 : Nat), p.1]) := by
  unfold iEn
  rw [h]
  exact Iff.rfl
end
end DL

namespace DL
open PySem L2
variable {X : Xc → Env → Prop}
class Enc (α : Type) where
  enc : α → D
  dep : Nat
  frz_enc : ∀ a, frz (enc a) = enc a
  plain_enc : ∀ a, plainD (enc a) = true
  dle_enc : ∀ a n, dep ≤ n → dle n (enc a) = true
  eq_enc : ∀ a b, eqD (enc a) (enc b) = true ↔ a = b
open Enc (enc)
class EncN (α : Type) [Enc α] : Prop where
  ne : ∀ a : α, eqD (enc a) .non = false
  en : ∀ a : α, eqD .non (enc a) = false
  nn : ∀ a : α, enc a ≠ .non
class EncS (α : Type) [Enc α] : Prop where
  shr_enc : ∀ a : α, shr (enc a) = false
structure Tx where
  cs : List Nat
deriving DecidableEq
structure T3 (α β γ : Type) where
  a : α
  b : β
  c : γ
deriving DecidableEq
section
variable {α β γ : Type} [Enc α] [Enc β] [Enc γ]
@[simp] theorem frz_enc (a : α) : frz (enc a) = enc a := Enc.frz_enc a
@[simp] theorem plain_enc (a : α) : plainD (enc a) = true := Enc.plain_enc a
@[simp] theorem shr_enc [EncS α] (a : α) : shr (enc a) = false := EncS.shr_enc a
theorem dle_enc {a : α} {n : Nat} (h : Enc.dep α ≤ n) : dle n (enc a) = true := Enc.dle_enc a n h
@[simp] theorem eqD_enc [DecidableEq α] (a b : α) : eqD (enc a) (enc b) = decide (a = b) := by
  rw [Bool.eq_iff_iff, Enc.eq_enc]; simp
@[simp] theorem frzs_enc (xs : List α) : frzs (xs.map enc) = xs.map enc := by
  rw [frzs_map, List.map_map]; exact List.map_congr_left fun a _ => frz_enc a
@[simp] theorem plains_enc (xs : List α) : plainDs (xs.map enc) = true := by
  induction xs with
  | nil => rfl
  | cons x xs ih => simp [ih]
@[simp] theorem shrs_enc [EncS α] (xs : List α) : shrs (xs.map enc) = false := by
  induction xs with
  | nil => rfl
  | cons x xs ih => simp [ih]
theorem dles_enc {n : Nat} (h : Enc.dep α ≤ n) (xs : List α) : dles n (xs.map enc) = true := by
  induction xs with
  | nil => rfl
  | cons x xs ih =>
    show (dle n (enc x) && dles n (xs.map enc)) = true
    rw [ih, Enc.dle_enc x n h]; rfl
theorem eqDs_enc' : ∀ xs ys : List α, eqDs (xs.map enc) (ys.map enc) = true ↔ xs = ys
  | [], [] => by simp [eqDs]
  | [], _ :: _ => by simp [eqDs]
  | _ :: _, [] => by simp [eqDs]
  | x :: xs, y :: ys => by
    show (eqD (enc x) (enc y) && eqDs (xs.map enc) (ys.map enc)) = true ↔ _
    rw [Bool.and_eq_true, Enc.eq_enc, eqDs_enc' xs ys, List.cons.injEq]
@[simp] theorem eqDs_enc [DecidableEq α] (xs ys : List α) : eqDs (xs.map enc) (ys.map enc) = decide (xs = ys) := by
  rw [Bool.eq_iff_iff, eqDs_enc']; simp
instance : Enc Int := ⟨.int, 0, fun _ => rfl, fun _ => rfl, fun _ n _ => by cases n <;> rfl, fun a b => by simp [eqD]⟩
instance : Enc Nat := ⟨fun n => .int n, 0, fun _ => rfl, fun _ => rfl, fun _ n _ => by cases n <;> rfl, fun a b => by simp [eqD]; omega⟩
instance : Enc Bool := ⟨.bl, 0, fun _ => rfl, fun _ => rfl, fun _ n _ => by cases n <;> rfl, fun a b => by simp [eqD]⟩
instance : Enc Tx := ⟨fun t => .str t.cs, 0, fun _ => rfl, fun _ => rfl, fun _ n _ => by cases n <;> rfl, fun ⟨a⟩ ⟨b⟩ => by simp [eqD]⟩
instance : Enc (List α) := ⟨fun xs => .lst false (xs.map enc), Enc.dep α + 1, fun xs => by show D.lst false (frzs _) = _; rw [frzs_enc], plains_enc, fun xs n h => by
  match n, h with
  | n + 1, h => exact dles_enc (by omega) xs, fun a b => by show eqDs _ _ = true ↔ _; rw [eqDs_enc']⟩
instance : Enc (α × β) := ⟨fun p => .tup [enc p.1, enc p.2], max (Enc.dep α) (Enc.dep β) + 1, fun p => by simp, fun p => by simp, fun p n h => by
  match n, h with
  | n + 1, h =>
    show (dle n (enc p.1) && (dle n (enc p.2) && true)) = true
    rw [dle_enc (by omega), dle_enc (by omega)]; rfl, fun a b => by
  show (eqD (enc a.1) (enc b.1) && (eqD (enc a.2) (enc b.2) && true)) = true ↔ _
  rw [Bool.and_true, Bool.and_eq_true, Enc.eq_enc, Enc.eq_enc]
  constructor
  · rintro ⟨h1, h2⟩; exact Prod.ext h1 h2
  · rintro rfl; exact ⟨rfl, rfl⟩⟩
instance : Enc (T3 α β γ) := ⟨fun p => .tup [enc p.a, enc p.b, enc p.c], max (max (Enc.dep α) (Enc.dep β)) (Enc.dep γ) + 1, fun p => by simp, fun p => by simp, fun p n h => by
  match n, h with
  | n + 1, h =>
    show (dle n (enc p.a) && (dle n (enc p.b) && (dle n (enc p.c) && true))) = true
    rw [dle_enc (by omega), dle_enc (by omega), dle_enc (by omega)]; rfl, fun a b => by
  show (eqD (enc a.a) (enc b.a) && (eqD (enc a.b) (enc b.b) && (eqD (enc a.c) (enc b.c) && true))) = true ↔ _
  rw [Bool.and_true, Bool.and_eq_true, Bool.and_eq_true, Enc.eq_enc, Enc.eq_enc, Enc.eq_enc]
  constructor
  · rintro ⟨h1, h2, h3⟩; cases a; cases b; cases h1; cases h2; cases h3; rfl
  · rintro rfl; exact ⟨rfl, rfl, rfl⟩⟩
instance : EncN Int := ⟨fun _ => rfl, fun _ => rfl, fun _ h => nomatch h⟩
instance : EncN Nat := ⟨fun _ => rfl, fun _ => rfl, fun _ h => nomatch h⟩
instance : EncN Bool := ⟨fun _ => rfl, fun _ => rfl, fun _ h => nomatch h⟩
instance : EncN Tx := ⟨fun _ => rfl, fun _ => rfl, fun _ h => nomatch h⟩
instance : EncN (List α) := ⟨fun _ => rfl, fun _ => rfl, fun _ h => nomatch h⟩
instance : EncN (α × β) := ⟨fun _ => rfl, fun _ => rfl, fun _ h => nomatch h⟩
instance : EncN (T3 α β γ) := ⟨fun _ => rfl, fun _ => rfl, fun _ h => nomatch h⟩
instance : EncS Int := ⟨fun _ => rfl⟩
instance : EncS Nat := ⟨fun _ => rfl⟩
instance : EncS Bool := ⟨fun _ => rfl⟩
instance : EncS Tx := ⟨fun _ => rfl⟩
instance [EncS α] [EncS β] : EncS (α × β) := ⟨fun p => by show (shr (enc p.1) || (shr (enc p.2) || false)) = false; simp⟩
instance [EncS α] [EncS β] [EncS γ] : EncS (T3 α β γ) := ⟨fun p => by show (shr (enc p.a) || (shr (enc p.b) || (shr (enc p.c) || false))) = false; simp⟩
instance [EncN α] : Enc (Option α) := ⟨fun o => match o with | some a => enc a | none => .non, Enc.dep α, fun o => by cases o <;> simp, fun o => by cases o <;> simp, fun o n h => by
  cases o with
  | none => cases n <;> rfl
  | some a => exact dle_enc h, fun a b => by
  cases a <;> cases b
  · simp [eqD]
  · simp [EncN.en]
  · simp [EncN.ne]
  · simp [Enc.eq_enc]⟩
instance [EncN α] [EncS α] : EncS (Option α) := ⟨fun o => by
  cases o with
  | none => rfl
  | some a => exact shr_enc a⟩
@[simp] theorem enc_int (i : Int) : enc i = .int i := rfl
@[simp] theorem enc_nat (i : Nat) : enc i = .int i := rfl
@[simp] theorem enc_bl (i : Bool) : enc i = .bl i := rfl
@[simp] theorem enc_tx (i : Tx) : enc i = .str i.cs := rfl
@[simp] theorem enc_list (xs : List α) : enc xs = .lst false (xs.map enc) := rfl
@[simp] theorem enc_pair (p : α × β) : enc p = .tup [enc p.1, enc p.2] := rfl
@[simp] theorem enc_t3 (p : T3 α β γ) : enc p = .tup [enc p.a, enc p.b, enc p.c] := rfl
@[simp] theorem enc_none [EncN α] : enc (none : Option α) = .non := rfl
@[simp] theorem enc_some [EncN α] (a : α) : enc (some a) = enc a := rfl
@[simp] theorem enc_ne [EncN α] (a : α) : enc a ≠ .non := EncN.nn a
@[simp] theorem inD_enc [DecidableEq α] (a : α) (xs : List α) : inD (enc a) (xs.map enc) = decide (a ∈ xs) := by
  unfold inD
  rw [List.any_map, Bool.eq_iff_iff]
  simp
@[simp] theorem atI_enc (xs : List α) (i : Int) : atI (xs.map enc) i = (atI xs i).map enc := by
  unfold atI
  rw [List.length_map]
  cases ixN xs.length i <;> simp
end
end DL

namespace DL
open PySem L2 Enc
variable {X : Xc → Env → Prop}
section
variable {r : Env} {P : D → Prop} {α β : Type} [Enc α] [Enc β] {it : Env → Out (List D)} {vs : List Nat} {g : D → Env → Out Env} {tt : Env → Out Bool} {el : F}
@[simp] theorem dles_tx {n : Nat} (xs : List Tx) : dles n (xs.map enc) = true := dles_enc (Nat.zero_le _) xs
@[simp] theorem dles_nat {n : Nat} (xs : List Nat) : dles n (xs.map enc) = true := dles_enc (Nat.zero_le _) xs
@[simp] theorem dles_int {n : Nat} (xs : List Int) : dles n (xs.map enc) = true := dles_enc (Nat.zero_le _) xs
@[simp] theorem dles_bl {n : Nat} (xs : List Bool) : dles n (xs.map enc) = true := dles_enc (Nat.zero_le _) xs
end
end DL

namespace DL
open PySem L2
variable {X : Xc → Env → Prop}
section
variable {α β : Type} {P : D → Prop} {b : Bool}
@[simp] theorem frzs_map_f (f : α → D) (xs : List α) : frzs (xs.map f) = xs.map fun x => frz (f x) := by rw [frzs_map, List.map_map]; rfl
@[simp] theorem shrs_map_f (f : α → D) (xs : List α) : shrs (xs.map f) = xs.any fun x => shr (f x) := by rw [shrs_any, List.any_map]; rfl
theorem plainDs_all : ∀ xs : List D, plainDs xs = xs.all plainD
  | [] => rfl
  | x :: xs => by rw [plainDs, plainDs_all xs]; rfl
theorem dles_all (n : Nat) : ∀ xs : List D, dles n xs = xs.all (dle n)
  | [] => by cases n <;> rfl
  | x :: xs => by
    have : dles n (x :: xs) = (dle n x && dles n xs) := by cases n <;> rfl
    rw [this, dles_all n xs]; rfl
@[simp] theorem plainDs_map_f (f : α → D) (xs : List α) : plainDs (xs.map f) = xs.all fun x => plainD (f x) := by rw [plainDs_all, List.all_map]; rfl
@[simp] theorem dles_map_f (n : Nat) (f : α → D) (xs : List α) : dles n (xs.map f) = xs.all fun x => dle n (f x) := by rw [dles_all, List.all_map]; rfl
theorem blsD_f (f : α → Bool) (xs : List α) : blsD (xs.map fun x => .bl (f x)) = some (xs.map f) := by
  have := blsD_map (xs.map f)
  rw [List.map_map] at this
  exact this
@[simp] theorem gAll_f (f : α → Bool) (xs : List α) : gAll (.lst b (xs.map fun x => .bl (f x))) = .ok (.bl (xs.all f)) := by
  show (match blsD (xs.map fun x => .bl (f x)) with | some xs => Out.ok (D.bl (xs.all id)) | none => .bad) = _
  rw [blsD_f]
  show Out.ok (D.bl ((xs.map f).all id)) = _
  rw [List.all_map]; rfl
@[simp] theorem gAny_f (f : α → Bool) (xs : List α) : gAny (.lst b (xs.map fun x => .bl (f x))) = .ok (.bl (xs.any f)) := by
  show (match blsD (xs.map fun x => .bl (f x)) with | some xs => Out.ok (D.bl (xs.any id)) | none => .bad) = _
  rw [blsD_f]
  show Out.ok (D.bl ((xs.map f).any id)) = _
  rw [List.any_map]; rfl
@[simp] theorem WO_join_f (f : α → Nat) (xs : List α) : WO' X (gJoin (.str []) (.lst b (xs.map fun x => .str [f x]))) P ↔ xs.length ≤ 1000000 ∧ P (.str (xs.map f)) := by
  have := WO_join0 (X := X) (P := P) (b := b) (cs := xs.map f)
  rw [List.map_map, List.length_map] at this
  exact this
end
def zpD : List D → Out (List D) := fun ds => match ds with
  | [x, y] => match seqD x, seqD y with
    | some xs, some ys => .ok ((xs.zip ys).map fun p => .tup [p.1, p.2])
    | _, _ => .bad
  | _ => .bad
def enD : List D → Out (List D) := fun ds => match ds with
  | [x] => match seqD x with
    | some xs => .ok (enumD xs)
    | none => .bad
  | _ => .bad
section
variable {r : Env} {fs : Env → Out (List D)} {b b' : Bool}
@[simp] theorem iZp_eq : iZp fs r = (fs r).bind zpD := rfl
@[simp] theorem iEn_eq : iEn fs r = (fs r).bind enD := rfl
@[simp] theorem zpD_SS {a c : List Nat} : zpD [.str a, .str c] = .ok ((a.zip c).map fun p => .tup [.str [p.1], .str [p.2]]) := by
  show Out.ok _ = _
  rw [List.zip_map, List.map_map]; rfl
@[simp] theorem zpD_LL {a c : List D} : zpD [.lst b a, .lst b' c] = .ok ((a.zip c).map fun p => .tup [p.1, p.2]) := rfl
@[simp] theorem zpD_LS {a : List D} {c : List Nat} : zpD [.lst b a, .str c] = .ok ((a.zip c).map fun p => .tup [p.1, .str [p.2]]) := by
  show Out.ok _ = _
  rw [List.zip_map_right, List.map_map]; rfl
@[simp] theorem enD_S {a : List Nat} : enD [.str a] = .ok (a.zipIdx.map fun p => .tup [.int (p.2 : Nat), .str [p.1]]) := by
  show Out.ok (enumD _) = _
  unfold enumD
  rw [List.zipIdx_map, List.map_map]; rfl
@[simp] theorem enD_L {a : List D} : enD [.lst b a] = .ok (a.zipIdx.map fun p => .tup [.int (p.2 : Nat), p.1]) := rfl
@[simp] theorem enD_T {a : List D} : enD [.tup a] = .ok (a.zipIdx.map fun p => .tup [.int (p.2 : Nat), p.1]) := rfl
end
section
variable {r : Env} {N C B : Env → Prop} {R : D → Env → Prop} {f : FX} {i j : Nat}
@[simp] theorem WO_io {n : Nat} {m : List D → Out (D × D)} {h : Env → Out (List D × Env)} {P : D × Env → Prop} : WO' X (xIO i n m h r) P ↔ ∃ d, r[i]? = some (some d) ∧ WO' X (h r) fun p => ∃ d0, p.2[i]? = some (some d0) ∧ p.1.length + 1 = n ∧ WO' (fun x r => ∃ d1, r = [some d1] ∧ X x (p.2.set i (some d1))) (m (d0 :: frzs p.1)) fun q => P (q.1, p.2.set i (some q.2)) := by
  constructor
  · intro h
    have : ∃ d, r[i]? = some (some d) := by
      unfold xIO at h
      split at h
      · exact ⟨_, by assumption⟩
      · exact h.elim
    obtain ⟨d, hd⟩ := this
    exact ⟨d, hd, (WO_xIO hd).mp h⟩
  · rintro ⟨d, hd, h⟩
    exact (WO_xIO hd).mpr h
@[simp] theorem WT_augE {gg : D → D → Out D} : WT' X (sAug i gg f r) N C B R ↔ ∃ d0, r[i]? = some (some d0) ∧ isSc d0 = true ∧ WO' X (f r) fun p => WO' XF (gg d0 (frz p.1)) fun d => i < p.2.length ∧ N (p.2.set i (some d)) := by
  constructor
  · intro h
    have : ∃ d, r[i]? = some (some d) ∧ isSc d = true := by
      unfold sAug at h
      split at h
      · split at h
        · exact ⟨_, by assumption, by assumption⟩
        · exact h.elim
      · exact h.elim
    obtain ⟨d, hd, hs⟩ := this
    exact ⟨d, hd, hs, (WT_aug hd hs).mp h⟩
  · rintro ⟨d, hd, hs, h⟩
    exact (WT_aug hd hs).mpr h
@[simp] theorem WS_augE {gg : D → D → Out D} : WS' X (sAug i gg f r) N R ↔ ∃ d0, r[i]? = some (some d0) ∧ isSc d0 = true ∧ WO' X (f r) fun p => WO' XF (gg d0 (frz p.1)) fun d => i < p.2.length ∧ N (p.2.set i (some d)) := by
  constructor
  · intro h
    have : ∃ d, r[i]? = some (some d) ∧ isSc d = true := by
      unfold sAug at h
      split at h
      · split at h
        · exact ⟨_, by assumption, by assumption⟩
        · exact h.elim
      · exact h.elim
    obtain ⟨d, hd, hs⟩ := this
    exact ⟨d, hd, hs, (WS_aug hd hs).mp h⟩
  · rintro ⟨d, hd, hs, h⟩
    exact (WS_aug hd hs).mpr h
@[simp] theorem isSc_int {n : Int} : isSc (.int n) = true := rfl
@[simp] theorem isSc_str {n : List Nat} : isSc (.str n) = true := rfl
@[simp] theorem WS_forE {it : Env → Out (List D × Env)} {tg : D → Env → Out Env} {body : FS} : WS' X (sFor it tg body r) N R ↔ WO' X (it r) fun p => WS' X (forS tg body p.1 p.2) N R := WS_for
@[simp] theorem WT_forE {it : Env → Out (List D × Env)} {tg : D → Env → Out Env} {body : FS} : WT' X (sFor it tg body r) N C B R ↔ WO' X (it r) fun p => WS' X (forS tg body p.1 p.2) N R := WT_for
theorem for_of {α : Type} {tg : D → Env → Out Env} {body : FS} (e : α → D) (I : List α → Env → Prop) (as : List α) (h : I as r) (h1 : ∀ a as' r (K : Env → Prop), I (a :: as') r → (∀ r, I as' r → K r) → WO' XF (tg (e a) r) fun r1 => WT' X (body r1) K K N R) (h2 : ∀ r, I [] r → N r) : WS' X (forS tg body (as.map e) r) N R := by
  refine WS_forT (fun ds r => ∃ as', ds = as'.map e ∧ I as' r) ⟨as, rfl, h⟩ ?_ ?_
  · rintro d ds r ⟨as', hd, hi⟩
    match as', hd, hi with
    | a :: as', hd, hi =>
      simp only [List.map_cons, List.cons.injEq] at hd
      obtain ⟨rfl, rfl⟩ := hd
      exact h1 a as' r _ hi fun r z => ⟨as', rfl, z⟩
  · rintro r ⟨as', hd, hi⟩
    cases as' with
    | nil => exact h2 r hi
    | cons a b => cases hd
theorem rng_map (n : Nat) : rng 0 n = (List.range n).map fun k => D.int (k : Nat) := by
  unfold rng
  exact List.map_congr_left fun a _ => by simp
end
@[simp] theorem gIx_pick {x y : D} {b : Bool} {c : Prop} [Decidable c] : gIx (.lst b [x, y]) (.int (if c then 1 else 0)) = .ok (if c then y else x) := by
  split <;> rfl
theorem atI_get {α : Type} {xs : List α} {i : Int} (h0 : 0 ≤ i) (h : i < xs.length) : atI xs i = some (xs[i.toNat]'(by omega)) := by
  rw [atI_pos h0 h]; simp [show i.toNat < xs.length by omega]
@[simp] theorem atI_pick {α : Type} {x y : α} {c : Prop} [Decidable c] : atI [x, y] (if c then 1 else 0) = some (if c then y else x) := by
  split <;> rfl
@[simp] theorem sum_const {α : Type} (n : Nat) : ∀ xs : List α, (xs.map fun _ => n).sum = n * xs.length
  | [] => rfl
  | x :: xs => by rw [List.map_cons, List.sum_cons, sum_const n xs, List.length_cons, Nat.mul_succ]; omega
@[simp] theorem frzs_app (xs ys : List D) : frzs (xs ++ ys) = frzs xs ++ frzs ys := by simp [frzs_map]
@[simp] theorem shrs_app (xs ys : List D) : shrs (xs ++ ys) = (shrs xs || shrs ys) := by simp [shrs_any]
@[simp] theorem plainDs_app (xs ys : List D) : plainDs (xs ++ ys) = (plainDs xs && plainDs ys) := by simp [plainDs_all]
@[simp] theorem dles_app (n : Nat) (xs ys : List D) : dles n (xs ++ ys) = (dles n xs && dles n ys) := by simp [dles_all]
@[simp] theorem gInt_int {i : Int} : gInt (.int i) = .ok (.int i) := rfl
@[simp] theorem gInt_bl {b : Bool} : gInt (.bl b) = .ok (.int (if b = true then 1 else 0)) := rfl
end DL

namespace DL
open PySem L2
variable {X : Xc → Env → Prop}
section
variable {r : Env} {N C B : Env → Prop} {R : D → Env → Prop} {f g : FS} {fx : FX} {i j : Nat}
@[simp] theorem XF_eq {x : Xc} : XF x r ↔ False := Iff.rfl
theorem WS_step (h : ∀ K : Env → Prop, (∀ r1, WS' X (g r1) N R → K r1) → WS' X (f r) K R) : WS' X (sSeq f g r) N R :=
  WS_seq.mpr (h _ fun _ z => z)
theorem WT_step (h : ∀ K : Env → Prop, (∀ r1, WT' X (g r1) N C B R → K r1) → WT' X (f r) K C B R) : WT' X (sSeq f g r) N C B R :=
  WT_seq.mpr (h _ fun _ z => z)
def twoD : List D → Out (D × D)
  | [a, b] => .ok (a, b)
  | _ => .bad
@[simp] theorem twoD_eq {a b : D} : twoD [a, b] = .ok (a, b) := rfl
theorem WO_two {P : D × D → Prop} {ds : List D} : WO' X (twoD ds) P ↔ ∃ a b, ds = [a, b] ∧ P (a, b) := by
  constructor
  · intro h
    match ds, h with
    | [a, b], h => exact ⟨a, b, rfl, h⟩
  · rintro ⟨a, b, rfl, h⟩; exact h
@[simp] theorem WS_parW {h : Env → Out (List D × Env)} : WS' X (sPar i j h r) N R ↔ WO' X (h r) fun p => WO' X (twoD p.1) fun ab => (i < p.2.length ∧ j < p.2.length) ∧ N ((p.2.set i (some ab.1)).set j (some ab.2)) := by
  rw [WS_par]
  constructor <;> refine fun z => z.mono fun p q => ?_
  · exact WO_two.mpr q
  · exact WO_two.mp q
@[simp] theorem WT_parW {h : Env → Out (List D × Env)} : WT' X (sPar i j h r) N C B R ↔ WO' X (h r) fun p => WO' X (twoD p.1) fun ab => (i < p.2.length ∧ j < p.2.length) ∧ N ((p.2.set i (some ab.1)).set j (some ab.2)) := by
  rw [WT_par]
  constructor <;> refine fun z => z.mono fun p q => ?_
  · exact WO_two.mpr q
  · exact WO_two.mp q
@[simp] theorem WO_xC {m : List D → Out D} {h : Env → Out (List D × Env)} {P : D × Env → Prop} : WO' X (xC m h r) P ↔ WO' X (h r) fun p => WO' (fun x _ => X x p.2) (m (frzs p.1)) fun d => P (d, p.2) := by
  unfold xC
  rw [WO_bind]
  constructor <;> refine fun z => z.mono fun p q => ?_
  · cases hm : m (frzs p.1) <;> rw [hm] at q <;> first | exact q | exact q.elim
  · cases hm : m (frzs p.1) <;> rw [hm] at q <;> first | exact q | exact q.elim
end
theorem cut_drop {α : Type} (xs : List α) (k : Nat) : cut xs (some (k : Int)) none = xs.drop k := by
  unfold cut
  rw [HT.sIx_nat]
  show (xs.drop (min k xs.length)).take (xs.length - min k xs.length) = _
  by_cases h : k ≤ xs.length
  · rw [Nat.min_eq_left h]
    exact List.take_of_length_le (by simp)
  · rw [Nat.min_eq_right (by omega), Nat.sub_self, List.take_zero, List.drop_eq_nil_of_le (by omega)]
@[simp] theorem frz_obj {b : Bool} {c : Str} {fs : List Str} {xs : List D} : frz (.obj b c fs xs) = .obj false c fs (frzs xs) := by simp [frz]
@[simp] theorem frz_dT {b : Bool} {ks : List (List Key)} {xs : List D} : frz (.dT b ks xs) = .dT false ks (frzs xs) := by simp [frz]
@[simp] theorem shr_obj {b : Bool} {c : Str} {fs : List Str} {xs : List D} : shr (.obj b c fs xs) = (!b || shrs xs) := by simp [shr]
@[simp] theorem shr_dT {b : Bool} {ks : List (List Key)} {xs : List D} : shr (.dT b ks xs) = (!b || shrs xs) := by simp [shr]
section
variable {r : Env} {N C B : Env → Prop} {R : D → Env → Prop} {f : FX}
@[simp] theorem sT_tup {n : Nat} {g : List D → Env → Out Env} {ds : List D} : sT n g (.tup ds) r = if ds.length = n then g ds r else .bad := rfl
@[simp] theorem sCons_cons {g : D → Env → Out Env} {h : List D → Env → Out Env} {d : D} {ds : List D} : sCons g h (d :: ds) r = (g d r).bind fun r1 => h ds r1 := rfl
@[simp] theorem sNil_nil : sNil [] r = .ok r := rfl
@[simp] theorem WS_asg {gg : D → Env → Out Env} : WS' X (sAsg f gg r) N R ↔ WO' X (f r) fun p => WO' XF (gg (frz p.1) p.2) N := by
  unfold sAsg
  cases f r with
  | ok p =>
    show WS' X (match gg (frz p.1) p.2 with | .ok r' => .nx r' | _ => .bad) N R ↔ WO' XF (gg (frz p.1) p.2) N
    cases gg (frz p.1) p.2 <;> exact Iff.rfl
  | exn x r' => exact Iff.rfl
  | bad => exact Iff.rfl
@[simp] theorem WT_asg {gg : D → Env → Out Env} : WT' X (sAsg f gg r) N C B R ↔ WO' X (f r) fun p => WO' XF (gg (frz p.1) p.2) N := by
  unfold sAsg
  cases f r with
  | ok p =>
    show WT' X (match gg (frz p.1) p.2 with | .ok r' => .nx r' | _ => .bad) N C B R ↔ WO' XF (gg (frz p.1) p.2) N
    cases gg (frz p.1) p.2 <;> exact Iff.rfl
  | exn x r' => exact Iff.rfl
  | bad => exact Iff.rfl
end
end DL

namespace DL
open PySem L2
variable {X : Xc → Env → Prop}
section
variable {r : Env} {N C B : Env → Prop} {R : D → Env → Prop} {f : FX} {i : Nat} {P : D × Env → Prop}
@[simp] theorem WO_app : WO' X (sApp i f r) P ↔ ∃ ds0, r[i]? = some (some (.lst true ds0)) ∧ WO' X (f r) fun p => ∃ ds, p.2[i]? = some (some (.lst true ds)) ∧ ds.length < 1000000 ∧ P (.non, p.2.set i (some (.lst true (ds ++ [p.1])))) := by
  have key : ∀ p : D × Env, WO' X (match p.2[i]? with | some (some (.lst true ds)) => if ds.length < 1000000 then .ok (.non, p.2.set i (some (.lst true (ds ++ [p.1])))) else .bad | _ => .bad : Out (D × Env)) P ↔ ∃ ds, p.2[i]? = some (some (.lst true ds)) ∧ ds.length < 1000000 ∧ P (.non, p.2.set i (some (.lst true (ds ++ [p.1])))) := by
    intro p
    split
    · rename_i ds h
      by_cases hl : ds.length < 1000000
      · rw [if_pos hl]
        exact ⟨fun z => ⟨ds, h, hl, z⟩, fun ⟨ds', h', _, z⟩ => by rw [h] at h'; cases h'; exact z⟩
      · rw [if_neg hl]
        exact ⟨fun z => z.elim, fun ⟨ds', h', l, z⟩ => by rw [h] at h'; cases h'; exact hl l⟩
    · rename_i hno
      exact ⟨fun z => z.elim, fun ⟨ds, h, _⟩ => hno ds h⟩
  unfold sApp
  split
  · rename_i ds0 h0
    rw [WO_bind]
    constructor
    · intro z
      exact ⟨ds0, h0, z.mono fun p => (key p).mp⟩
    · rintro ⟨_, _, z⟩
      exact z.mono fun p => (key p).mpr
  · rename_i hno
    exact ⟨fun z => z.elim, fun ⟨ds, h, _⟩ => hno ds h⟩
theorem WO_popAt : WO' X (sPopAt i f r) P ↔ ∃ ds0, r[i]? = some (some (.lst true ds0)) ∧ WO' X (f r) fun p => ∃ k ds j d, p.1 = .int k ∧ p.2[i]? = some (some (.lst true ds)) ∧ ixN ds.length k = some j ∧ ds.length ≤ 1000000 ∧ ds[j]? = some d ∧ P (frz d, p.2.set i (some (.lst true (ds.eraseIdx j)))) := by
  have key : ∀ p : D × Env, WO' X (match p.1, p.2[i]? with
    | .int k, some (some (.lst true ds)) => match ixN ds.length k with
      | some j => if ds.length ≤ 1000000 then popD i j p.2 else .bad
      | none => .bad
    | _, _ => .bad : Out (D × Env)) P ↔ ∃ k ds j d, p.1 = .int k ∧ p.2[i]? = some (some (.lst true ds)) ∧ ixN ds.length k = some j ∧ ds.length ≤ 1000000 ∧ ds[j]? = some d ∧ P (frz d, p.2.set i (some (.lst true (ds.eraseIdx j)))) := by
    intro p
    generalize hp : p.1 = p1
    generalize hq : p.2[i]? = q
    split
    · rename_i k ds
      constructor
      · intro z
        split at z
        · rename_i j hj
          split at z
          · rename_i hl
            unfold popD at z
            rw [hq] at z
            simp only [] at z
            split at z
            · rename_i d hd
              exact ⟨k, ds, j, d, rfl, rfl, hj, hl, hd, z⟩
            · exact z.elim
          · exact z.elim
        · exact z.elim
      · rintro ⟨k', ds', j, d, e1, e2, hj, hl, hd, z⟩
        cases e1
        cases e2
        rw [hj]
        simp only []
        rw [if_pos hl]
        unfold popD
        rw [hq]
        simp only []
        rw [hd]
        exact z
    · rename_i hno
      exact ⟨fun z => z.elim, fun ⟨k, ds, j, d, e1, e2, _⟩ => (hno k ds e1 e2).elim⟩
  unfold sPopAt
  split
  · rename_i ds0 h0
    rw [WO_bind]
    constructor
    · intro z
      exact ⟨ds0, h0, z.mono fun p => (key p).mp⟩
    · rintro ⟨_, _, z⟩
      exact z.mono fun p => (key p).mpr
  · rename_i hno
    exact ⟨fun z => z.elim, fun ⟨ds, h, _⟩ => hno ds h⟩
theorem while_inv {t : Env → Out (Bool × Env)} {body : FS} (I : Nat → Env → Prop) (step : ∀ m r (K : Env → Prop), I m r → (∀ m' r', m' < m → I m' r' → K r') → WO' X (t r) fun p => if p.1 = true then WT' X (body p.2) K K N R else N p.2) :
    ∀ (fuel m : Nat) (r : Env), m < fuel → I m r → WS' X (whileS t body fuel r) N R
  | 0, m, r, h, _ => absurd h (Nat.not_lt_zero m)
  | fuel + 1, m, r, h, hi => by
    have := step m r (fun r' => ∃ m', m' < m ∧ I m' r') hi fun m' r' h1 h2 => ⟨m', h1, h2⟩
    unfold whileS
    cases ht : t r with
    | ok p =>
      rw [ht] at this
      show WS' X (if p.1 = true then _ else _) N R
      replace this : if p.1 = true then WT' X (body p.2) (fun r' => ∃ m', m' < m ∧ I m' r') (fun r' => ∃ m', m' < m ∧ I m' r') N R else N p.2 := this
      by_cases hp : p.1 = true
      · rw [if_pos hp] at this ⊢
        cases hb : body p.2 with
        | nx r2 =>
          rw [hb] at this
          obtain ⟨m', h1, h2⟩ := this
          exact while_inv I step fuel m' r2 (by omega) h2
        | ct r2 =>
          rw [hb] at this
          obtain ⟨m', h1, h2⟩ := this
          exact while_inv I step fuel m' r2 (by omega) h2
        | bk r2 => rw [hb] at this; exact this
        | rt d r2 => rw [hb] at this; exact this
        | exn x r2 => rw [hb] at this; exact this
        | bad => rw [hb] at this; exact this.elim
      · rw [if_neg hp] at this ⊢
        exact this
    | exn x r' => rw [ht] at this; exact this
    | bad => rw [ht] at this; exact this.elim
end
@[simp] theorem gRepr_ok {d : D} (h : reprOk d = true) : gRepr d = .ok (.str (reprL d)) := if_pos h
theorem shortDs_all : ∀ xs : List D, shortDs xs = xs.all shortD
  | [] => rfl
  | x :: xs => by rw [shortDs, shortDs_all xs]; rfl
theorem bulkDs_sum : ∀ xs : List D, bulkDs xs = (xs.map fun x => bulkD x + 1).sum
  | [] => rfl
  | x :: xs => by rw [bulkDs, bulkDs_sum xs]; rfl
theorem bulkDs_le {xs : List D} {m k : Nat} (hl : xs.length ≤ m) (hb : ∀ x ∈ xs, bulkD x ≤ k) : bulkDs xs ≤ m * (k + 1) := by
  rw [bulkDs_sum]
  have : ∀ ys : List D, (∀ x ∈ ys, bulkD x ≤ k) → (ys.map fun x => bulkD x + 1).sum ≤ ys.length * (k + 1) := by
    intro ys
    induction ys with
    | nil => intro _; simp
    | cons y ys ih =>
      intro h
      have h1 := h y (List.mem_cons_self ..)
      have h2 := ih fun x hx => h x (List.mem_cons_of_mem _ hx)
      rw [List.map_cons, List.sum_cons, List.length_cons, Nat.succ_mul]
      omega
  exact Nat.le_trans (this xs hb) (Nat.mul_le_mul_right _ hl)
theorem WO_gPick {P : D → Prop} {g : D → D → Bool} {x y : D} : WO' X (gPick g [x, y]) P ↔ ordOk2 x y = true ∧ P (if g x y = true then y else x) := by
  show WO' X (if ordOk2 x y = true then _ else _) P ↔ _
  split
  · exact ⟨fun z => ⟨by assumption, z⟩, fun z => z.2⟩
  · exact ⟨fun z => z.elim, fun z => absurd z.1 (by assumption)⟩
theorem ltD_pair (a b c d : Int) : ltD (.tup [.int a, .int b]) (.tup [.int c, .int d]) = (decide (a < c) || (decide (a = c) && decide (b < d))) := by
  show W.dataLt (.tuple [.int a, .int b]) (.tuple [.int c, .int d]) = _
  rw [W.dataLt_tuple]
  by_cases h : a = c
  · subst h
    rw [W.dataLt_all_yes (by simp [W.alike]) (by simp [PyData.eqv])]
    by_cases h2 : b = d
    · subst h2
      rw [W.dataLt_all_yes (by simp [W.alike]) (by simp [PyData.eqv])]
      simp [W.keyToksAll, PyProof.Rows.lex_irrefl]
    · rw [W.dataLt_all_no (by simp [W.alike]) (by simp [PyData.eqv, h2]), W.dataLt_int]
      simp
  · rw [W.dataLt_all_no (by simp [W.alike]) (by simp [PyData.eqv, h]), W.dataLt_int]
    simp [h]
theorem ordOk_pair (a b c d : Int) : ordOk (.tup [.int a, .int b]) (.tup [.int c, .int d]) = true := by
  have h : W.alike (toPy (.tup [.int a, .int b])) (toPy (.tup [.int c, .int d])) = true := by
    simp [toPy, toPys, W.alike, W.alikeAll]
  simp only [ordOk, h, Bool.and_true]
  rfl
theorem ordOk2_pair (a b c d : Int) : ordOk2 (.tup [.int a, .int b]) (.tup [.int c, .int d]) = true := by
  simp [ordOk2, ordOk_pair]
end DL

namespace DL
open PySem L2
variable {X : Xc → Env → Prop} {r : Env} {N C B : Env → Prop} {R : D → Env → Prop} {g : FS} {P : D → Prop}
@[simp] theorem WS_raise {c : Str} : WS' X (sRaise c r) N R ↔ X ⟨c, [], []⟩ r := Iff.rfl
@[simp] theorem WT_raise {c : Str} : WT' X (sRaise c r) N C B R ↔ X ⟨c, [], []⟩ r := Iff.rfl
def XH (X : Xc → Env → Prop) (sub : Str → Option Bool) (i j : Nat) (N : Env → Prop) : Xc → Env → Prop := fun x r' => match sub x.cls with
  | some true => (i < r'.length ∧ j < r'.length ∧ x.fs.length = x.ds.length) ∧ N (((r'.set i none).set j (some (.exc x.cls x.fs x.ds))).set i none)
  | some false => X x r'
  | none => False
@[simp] theorem WS_try {sub : Str → Option Bool} {i j : Nat} : WS' X (sTry sub i j g r) N R ↔ WS' (XH X sub i j N) (g r) N R := by
  unfold sTry
  cases g r with
  | exn x r' =>
    show WS' X (match sub x.cls with | some true => _ | some false => _ | none => _) N R ↔ XH X sub i j N x r'
    unfold XH
    cases sub x.cls with
    | none => exact Iff.rfl
    | some b =>
      cases b with
      | false => exact Iff.rfl
      | true =>
        show WS' X (if _ then _ else _) N R ↔ _
        split
        · rename_i h; exact ⟨fun z => ⟨h, z⟩, fun z => z.2⟩
        · rename_i h; exact ⟨fun z => z.elim, fun z => h z.1⟩
  | _ => exact Iff.rfl
@[simp] theorem WT_try {sub : Str → Option Bool} {i j : Nat} : WT' X (sTry sub i j g r) N C B R ↔ WT' (XH X sub i j N) (g r) N C B R := by
  unfold sTry
  cases g r with
  | exn x r' =>
    show WT' X (match sub x.cls with | some true => _ | some false => _ | none => _) N C B R ↔ XH X sub i j N x r'
    unfold XH
    cases sub x.cls with
    | none => exact Iff.rfl
    | some b =>
      cases b with
      | false => exact Iff.rfl
      | true =>
        show WT' X (if _ then _ else _) N C B R ↔ _
        split
        · rename_i h; exact ⟨fun z => ⟨h, z⟩, fun z => z.2⟩
        · rename_i h; exact ⟨fun z => z.elim, fun z => h z.1⟩
  | _ => exact Iff.rfl
@[simp] theorem gIsX_exc {kit : Str → Option Bool} {c : Str} {fs : List Str} {xs : List D} : gIsX kit (.exc c fs xs) = match kit c with | some b => .ok (.bl b) | none => .bad := rfl
@[simp] theorem gNewL_lst {xs : List D} : gNewL (.lst true xs) = .ok .non := rfl
@[simp] theorem WO_cAppN {fa fb : F} : WO' X (cAppN fa fb r) P ↔ WO' X (fa r) fun d => ∃ ds, d = .lst true ds ∧ ds.length < 1000000 ∧ WO' X (fb r) fun _ => P .non := by
  unfold cAppN
  rw [WO_bind]
  constructor
  · intro h
    refine h.mono fun d q => ?_
    split at q
    · rename_i ds
      split at q
      · rename_i hl
        rw [WO_bind] at q
        exact ⟨ds, rfl, hl, q⟩
      · exact q.elim
    · exact q.elim
  · intro h
    refine h.mono fun d q => ?_
    obtain ⟨ds, rfl, hl, q⟩ := q
    show WO' X (if _ then _ else _) P
    rw [if_pos hl, WO_bind]
    exact q
@[simp] theorem shr_exc {c : Str} {fs : List Str} {xs : List D} : shr (.exc c fs xs) = shrs xs := rfl
@[simp] theorem frz_exc {c : Str} {fs : List Str} {xs : List D} : frz (.exc c fs xs) = .exc c fs (frzs xs) := rfl
end DL

namespace DL
open PySem L2
variable {X : Xc → Env → Prop} {r : Env} {N C B : Env → Prop} {R : D → Env → Prop} {g : FS} {P : D → Prop} {fx : FX} {fo : F} {fs : Env → Out (List D)}
@[simp] theorem WS_fld {i : Nat} {c f : Str} : WS' X (sFldS i c f fx r) N R ↔ WO' X (fx r) fun p => ∃ fs xs, p.2[i]? = some (some (.obj true c fs xs)) ∧ fs.length < 1000 ∧ N (p.2.set i (some (.obj true c (putN f fs) (putX f p.1 fs xs)))) := by
  unfold sFldS
  cases fx r with
  | ok p =>
    show WS' X (match p.2[i]? with | some (some (.obj true c' fs xs)) => _ | _ => _) N R ↔ _
    constructor
    · intro z
      split at z
      · rename_i c' fs xs h
        split at z
        · rename_i hc
          obtain ⟨rfl, hl⟩ := hc
          exact ⟨fs, xs, h, hl, z⟩
        · exact z.elim
      · exact z.elim
    · rintro ⟨fs, xs, h, hl, z⟩
      rw [h]
      show WS' X (if c = c ∧ fs.length < 1000 then _ else _) N R
      rw [if_pos ⟨rfl, hl⟩]
      exact z
  | _ => exact Iff.rfl
@[simp] theorem cMt_eq {c m : Str} {n : Nat} {mm : List D → Out D} {dd : List D} : cMt c m n mm dd fo fs r = (fo r).bind fun d => if isOb c m d = true then (fs r).bind fun ds => chk n mm (d :: (ds ++ dd)) else .bad := rfl
@[simp] theorem lenRng_eq {j : Int} : gLenR (.int j) = if 0 ≤ j ∧ j.toNat ≤ 1000000 then .ok (.int j) else .bad := rfl
@[simp] theorem gCnt_eq {cs : List Nat} {c : Nat} : gCnt (.str cs) (.str [c]) = .ok (.int (cs.count c : Nat)) := rfl
@[simp] theorem xMt_eq {c m : Str} {n : Nat} {mm : List D → Out D} {dd : List D} {f : FX} {h : Env → Out (List D × Env)} : xMt c m n mm dd f h r = (f r).bind fun p => if isOb c m p.1 = true then (h p.2).bind fun q => (match chk n mm (frz p.1 :: (frzs q.1 ++ dd)) with
  | .ok d => .ok (d, q.2)
  | .exn x _ => .exn x q.2
  | .bad => .bad) else .bad := rfl
@[simp] theorem sL_lst {n : Nat} {g : List D → Env → Out Env} {b : Bool} {ds : List D} : sL n g (.lst b ds) r = if ds.length = n then g ds r else .bad := rfl
end DL

namespace DL
open PySem L2
variable {X : Xc → Env → Prop} {r : Env} {N C B : Env → Prop} {R : D → Env → Prop} {P : D → Prop} {fa fb : F}
@[simp] theorem cCatN_eq : cCatN fa fb r = (fa r).bind fun x => (fb r).bind fun y => match x, y with
  | .lst true xs, .lst true ys => if xs.length + ys.length ≤ 1000000 then .ok (.lst true (xs ++ ys)) else .bad
  | _, _ => .bad := rfl
@[simp] theorem c2L_eq {g : D → D → Out D} : c2L g fa fb r = (fa r).bind fun a => if isLstB a = true then (fb r).bind fun b => g a b else .bad := rfl
@[simp] theorem isLst_eq {b : Bool} {xs : List D} : isLstB (.lst b xs) = true := rfl
end DL

namespace DL
open PySem L2
end DL

namespace DL
open PySem L2
variable {X : Xc → Env → Prop} {r : Env} {P : D → Prop} {fa fb : F}
@[simp] theorem cOrS_eq : cOrS fa fb r = (fa r).bind fun a => match a with
  | .str cs => if cs.length ≤ 1000000 then (if cs = [] then fb r else .ok (.str cs)) else .bad
  | _ => .bad := rfl
@[simp] theorem jNil_eq : jNil r = .ok [] := rfl
@[simp] theorem jCons_eq {g : Env → Out (List Nat)} : jCons fa g r = (fa r).bind fun d => match d with
  | .str cs => if cs.length ≤ 30000 then (g r).bind fun ds => .ok (cs ++ ds) else .bad
  | _ => .bad := rfl
@[simp] theorem cJn_eq {g : Env → Out (List Nat)} : cJn g r = (g r).bind fun cs => if cs.length ≤ 1000000 then .ok (.str cs) else .bad := rfl
@[simp] theorem gStr_str {cs : List Nat} : gStr (.str cs) = .ok (.str cs) := rfl
theorem gStr_nat {n : Nat} (h : n ≤ 1000000) : gStr (.int n) = .ok (.str (TL.numL n)) := by
  show (if 0 ≤ (n : Int) ∧ (n : Int).toNat ≤ 1000000 then _ else _) = _
  rw [if_pos ⟨by omega, by simpa using h⟩]; rfl
theorem gJoin_map {b : Bool} {s : List Nat} {xs : List (List Nat)} (h : lenSum xs + xs.length * s.length ≤ 1000000) : gJoin (.str s) (.lst b (xs.map .str)) = .ok (.str (joinL s xs)) := by
  show (match strsD (xs.map D.str) with | some xs => if lenSum xs + xs.length * s.length ≤ 1000000 then Out.ok (D.str (joinL s xs)) else .bad | none => .bad) = _
  rw [strsD_map]
  show (if _ then _ else _) = _
  rw [if_pos h]
theorem joinL_len (s : List Nat) : ∀ xs : List (List Nat), (joinL s xs).length ≤ lenSum xs + xs.length * s.length
  | [] => by simp [joinL]
  | x :: xs => by
    have : ∀ ys : List (List Nat), ((ys.map fun y => s ++ y).flatten).length = lenSum ys + ys.length * s.length := by
      intro ys
      induction ys with
      | nil => simp [lenSum]
      | cons y ys ih =>
        rw [List.map_cons, List.flatten_cons, List.length_append, ih, List.length_append]
        show _ = y.length + lenSum ys + _
        rw [List.length_cons, Nat.succ_mul]; omega
    show (x ++ (xs.map fun y => s ++ y).flatten).length ≤ x.length + lenSum xs + _
    rw [List.length_append, this, List.length_cons, Nat.succ_mul]; omega
end DL

namespace DL
open PySem L2
variable {X : Xc → Env → Prop} {r : Env} {N C B : Env → Prop} {R : D → Env → Prop}
@[simp] theorem shr_dTf {ks : List (List Key)} {xs : List D} : shr (.dT false ks xs) = true := by rw [shr]; rfl
@[simp] theorem gRevL_eq {b : Bool} {xs : List D} : gRevL (.lst b xs) = .ok (.lst true xs.reverse) := rfl
end DL

namespace DL
open PySem L2
@[simp] theorem cLam_eq {m : Out D → Out D} {fb : F} {r : Env} : cLam m fb r = m (fb r) := rfl
theorem kind_ok {sub : Str → Option Bool} {N i j : Nat} {g0 g1 : FS} {r1 : Env} {d : D} (h0 : g0 (List.replicate N none) = .nx r1) (hn : noV r1 = true) : mKind sub N i j g0 g1 (.ok d) = finS (g1 r1) := by
  unfold mKind
  rw [h0]
  simp only [hn, if_true]
end DL

namespace DL
open PySem L2
variable {X : Xc → Env → Prop} {r : Env} {N C B : Env → Prop} {R : D → Env → Prop} {f : FX} {Px : D × Env → Prop}
@[simp] theorem xFz_eq : xFz f r = (f r).bind fun p => .ok (frz p.1, p.2) := rfl
theorem WO_appP' {i : Nat} {fp : Env → Out (List Step)} {ns : List Nat} {ff : F} {π : List Step} {d d1 x : D} {es0 es : List D} (h1 : fp r = .ok π) (h2 : r[i]? = some (some d)) (h3 : ff (view ns r) = .ok x) (h4 : getP π d = some (.lst true es0)) (h5 : (if shr x = true then frzN ns r else r)[i]? = some (some d1)) (h6 : getP π d1 = some (.lst true es)) (hl : es.length < 1000000)
    (h : Px (.non, (if shr x = true then frzN ns r else r).set i (some (setP π (.lst true (es ++ [x])) d1)))) : WO' X (sAppP i fp ns ff r) Px := by
  unfold sAppP
  rw [h1, h2, h3]
  simp only []
  rw [h4, h5]
  simp only []
  rw [h6]
  simp only [hl, if_true]
  exact h
theorem WO_xMIO {i n : Nat} {c m : Str} {mm : List D → Out (D × D)} {h : Env → Out (List D × Env)} {d : D} (hd : r[i]? = some (some d)) (ho : isOb c m d = true) (hh : WO' X (xIO i n mm h r) Px) : WO' X (xMIO i c m n mm h r) Px := by
  unfold xMIO
  rw [hd]
  simp only [ho, if_true]
  exact hh
@[simp] theorem turnK_eq {vs : List Nat} {g : D → Env → Out Env} {tt : Env → Out Bool} {fk fv : F} {d : D} : turnK vs g tt fk fv r d = (g d (wipeE r vs)).bind fun r2 => (tt r2).bind fun b => if b = true then (fk r2).bind fun kd => (match kd with
    | .tup es => (match keysD es with
      | some k => (fv r2).bind fun y => .ok (some (k, y))
      | none => .bad)
    | _ => .bad) else .ok none := rfl
end DL

namespace DL
open PySem L2
variable {X : Xc → Env → Prop} {r : Env} {Px : D × Env → Prop}
end DL

namespace DL
open PySem L2
variable {X : Xc → Env → Prop} {r : Env} {N C B : Env → Prop} {R : D → Env → Prop} {Px : D × Env → Prop}
@[simp] theorem frz_dN {b : Bool} {ks : List NestedKey} {xs : List D} : frz (.dN b ks xs) = .dN false ks (frzs xs) := by simp [frz]
@[simp] theorem gLenN_eq {b : Bool} {ks : List NestedKey} {xs : List D} : gLenN (.dN b ks xs) = if ks.length ≤ 1000000 then .ok (.int ks.length) else .bad := rfl
end DL

namespace DL
open PySem L2
variable {X : Xc → Env → Prop} {r : Env} {N C B : Env → Prop} {R : D → Env → Prop} {Px : D × Env → Prop}
@[simp] theorem mixF_nil {p : Nat → Bool} {k : Nat} {r' : Env} : mixF p k [] r' = [] := by unfold mixF; rfl
@[simp] theorem mixF_cons {p : Nat → Bool} {k : Nat} {o o' : Option D} {r r' : Env} : mixF p k (o :: r) (o' :: r') = (if p k = true then o'.map unS else o) :: mixF p (k + 1) r r' := rfl
end DL

namespace DL
open PySem L2
variable {X : Xc → Env → Prop} {r : Env} {N C B : Env → Prop} {R : D → Env → Prop} {Px : D × Env → Prop}
@[simp] theorem gKG_eq {b : Bool} {ks : List Key} {xs : List D} {kd : D} {k : Key} {x : D} (h1 : keyD kd = some k) (h2 : getAK k ks xs = some x) : gKG (.dK b ks xs) kd = .ok x := by
  unfold gKG
  simp only [h1, h2]
end DL

namespace DL
open PySem L2
variable {X : Xc → Env → Prop} {r : Env} {f : FX} {N C B : Env → Prop} {R : D → Env → Prop} {Px : D × Env → Prop} {P : D → Prop}
theorem WO_mv0 {i : Nat} {d : D} (h : r[i]? = some (some d)) (hp : Px (d, r.set i (some .any))) : WO' X (xMv i r) Px := by
  unfold xMv
  rw [h]
  exact hp
@[simp] theorem gStr2_str {cs : List Nat} : gStr2 (.str cs) = .ok (.str cs) := rfl
@[simp] theorem gStr2_non : gStr2 .non = .ok (.str [78, 111, 110, 101]) := rfl
theorem gStr2_nat {n : Nat} (h : n ≤ 1000000) : gStr2 (.int n) = .ok (.str (TL.numL n)) := by
  unfold gStr2
  simp only []
  rw [if_pos ⟨by omega, by simpa using h⟩]
  simp
@[simp] theorem gLenK_eq {b : Bool} {ks : List Key} {xs : List D} : gLenK (.dK b ks xs) = .ok (.int ks.length) := rfl
@[simp] theorem WS_asgO {gg : D → Env → Out Env} : WS' X (sAsgO f gg r) N R ↔ WO' X (f r) fun p => WO' XF (gg p.1 p.2) N := by
  unfold sAsgO
  cases f r with
  | ok p =>
    show WS' X (match gg p.1 p.2 with | .ok r' => .nx r' | _ => .bad) N R ↔ WO' XF (gg p.1 p.2) N
    cases gg p.1 p.2 <;> exact Iff.rfl
  | exn x r' => exact Iff.rfl
  | bad => exact Iff.rfl
@[simp] theorem WT_asgO {gg : D → Env → Out Env} : WT' X (sAsgO f gg r) N C B R ↔ WO' X (f r) fun p => WO' XF (gg p.1 p.2) N := by
  unfold sAsgO
  cases f r with
  | ok p =>
    show WT' X (match gg p.1 p.2 with | .ok r' => .nx r' | _ => .bad) N C B R ↔ WO' XF (gg p.1 p.2) N
    cases gg p.1 p.2 <;> exact Iff.rfl
  | exn x r' => exact Iff.rfl
  | bad => exact Iff.rfl
end DL

namespace DL
open PySem L2
variable {X : Xc → Env → Prop} {r : Env} {f : FX} {N C B : Env → Prop} {R : D → Env → Prop} {Px : D × Env → Prop} {P : D → Prop}
@[simp] theorem WO_gSplit {cs : List Nat} {k : Nat} : WO' X (gSplit (.str cs) (.str [k])) P ↔ (cs.length ≤ 1000000 ∧ k < 256) ∧ P (.lst true ((TL.spl [k] 0 [] cs).map .str)) := by
  show WO' X (if cs.length ≤ 1000000 ∧ k < 256 then _ else _) P ↔ _
  by_cases h : cs.length ≤ 1000000 ∧ k < 256
  · rw [if_pos h]; exact ⟨fun z => ⟨h, z⟩, fun z => z.2⟩
  · rw [if_neg h]; exact ⟨fun z => z.elim, fun z => h z.1⟩
@[simp] theorem WO_gPart {cs : List Nat} {k : Nat} : WO' X (gPart (.str cs) (.str [k])) P ↔ cs.length ≤ 1000000 ∧ P (parD cs k) := by
  show WO' X (if cs.length ≤ 1000000 then _ else _) P ↔ _
  by_cases h : cs.length ≤ 1000000
  · rw [if_pos h]; exact ⟨fun z => ⟨h, z⟩, fun z => z.2⟩
  · rw [if_neg h]; exact ⟨fun z => z.elim, fun z => h z.1⟩
@[simp] theorem gStarts_eq {cs : List Nat} {k : Nat} : gStarts (.str cs) (.str [k]) = .ok (.bl (decide (cs.head? = some k))) := rfl
@[simp] theorem gIntS_int {i : Int} : gIntS (.int i) = .ok (.int i) := rfl
theorem gIntS_str {cs : List Nat} (h : (cs.all fun c => decide (48 ≤ c) && decide (c ≤ 57)) = true) (h0 : cs ≠ []) (hl : cs.length ≤ 600) : gIntS (.str cs) = .ok (.int (NumText.digitsVal cs : Nat)) := by
  show (if _ then _ else _) = _
  rw [if_pos ⟨h, h0, hl⟩]
theorem WO_appPM {i j : Nat} {fp : Env → Out (List Step)} {π : List Step} {d x : D} {es : List D} (h1 : fp r = .ok π) (h2 : r[i]? = some (some d)) (h3 : r[j]? = some (some x)) (hij : i ≠ j) (h4 : getP π d = some (.lst true es)) (hl : es.length < 1000000) (h : Px (.non, (r.set j (some .any)).set i (some (setP π (.lst true (es ++ [x])) d)))) : WO' X (sAppPM i j fp r) Px := by
  unfold sAppPM
  rw [h1, h2, h3]
  simp only [hij, if_false]
  rw [h4]
  simp only [hl, if_true]
  exact h
theorem WO_extT {i : Nat} {fp : Env → Out (List Step)} {ns : List Nat} {ff : F} {π : List Step} {d d1 : D} {xs es0 es : List D} (h1 : fp r = .ok π) (h2 : r[i]? = some (some d)) (h3 : ff (view ns r) = .ok (.tup xs)) (h4 : getP π d = some (.lst true es0)) (h5 : (if shrs xs = true then frzN ns r else r)[i]? = some (some d1)) (h6 : getP π d1 = some (.lst true es)) (hl : es.length + xs.length ≤ 1000000)
    (h : Px (.non, (if shrs xs = true then frzN ns r else r).set i (some (setP π (.lst true (es ++ xs)) d1)))) : WO' X (sExtT i fp ns ff r) Px := by
  unfold sExtT
  rw [h1, h2, h3]
  simp only []
  rw [h4, h5]
  simp only []
  rw [h6]
  simp only [hl, if_true]
  exact h
theorem WO_extP {i : Nat} {fp : Env → Out (List Step)} {ns : List Nat} {ff : F} (h : WO' XF (ff (view ns r)) fun y => ∃ xs π d d1 es0 es, y = .lst true xs ∧ fp r = .ok π ∧ r[i]? = some (some d) ∧ getP π d = some (.lst true es0) ∧ (if shrs xs = true then frzN ns r else r)[i]? = some (some d1) ∧ getP π d1 = some (.lst true es) ∧ es.length + xs.length ≤ 1000000 ∧ Px (.non, (if shrs xs = true then frzN ns r else r).set i (some (setP π (.lst true (es ++ xs)) d1)))) : WO' X (sExtP i fp ns ff r) Px := by
  obtain ⟨y, e, xs, π, d, d1, es0, es, rfl, h1, h2, h4, h5, h6, hl, hp⟩ := WO'.ok h
  unfold sExtP
  rw [h1, h2, e]
  simp only []
  rw [h4, h5]
  simp only []
  rw [h6]
  simp only [hl, if_true]
  exact hp
theorem WT_forM {i : Nat} {fp : Env → Out (List Step)} {gg : D → Env → Out Env} {g : FS} {π : List Step} {d : D} {xs : List D} (h1 : fp r = .ok π) (h2 : r[i]? = some (some d)) (h3 : getP π d = some (.lst true xs)) (hw : WS' XF (forS gg g xs (r.set i (some .any))) (fun r' => N (r'.set i (some (setP π (.lst true (anyL xs)) d)))) (fun _ _ => False)) : WT' X (sForM i fp gg g r) N C B R := by
  unfold sForM
  rw [h1, h2]
  simp only [h3]
  revert hw
  cases forS gg g xs (r.set i (some .any)) with
  | nx r' => exact id
  | bk r' => exact False.elim
  | ct r' => exact False.elim
  | rt d r' => exact False.elim
  | exn x r' => exact False.elim
  | bad => exact id
end DL

namespace My
open PySem L2 DL

def top (i : Nat) : Stmt := PySem.Challenge.pw_everyhead_k70_nets_written_and_read.main.body.getD i (.Pass ⟨0, 0, 0, 0⟩)
structure Txt (w : World) (K : PySem.W.Frag) (mg : Str → Option Value) (cm : Cm) : Prop where
  hk : K = cm.K
  hC : CmOk cm
  n_len : mg "len" = none
  n_range : mg "range" = none
  n_enumerate : mg "enumerate" = none
  n_min : mg "min" = none
  n_max : mg "max" = none
  n_int : mg "int" = none
  n_str : mg "str" = none
  n_all : mg "all" = none
  n_tuple : mg "tuple" = none
  n_isinstance : mg "isinstance" = none
  n_bool : mg "bool" = none
  n_list : mg "list" = none
  n_repr : mg "repr" = none
  na_Reading_own_links : NoAttr K (cm.cl "Reading") "own_links"
  na_Reading_own_switches : NoAttr K (cm.cl "Reading") "own_switches"
  na_Reading_own_width : NoAttr K (cm.cl "Reading") "own_width"
  ok_Reading : cm.ok "Reading"
  c_MOST_WIDTH : ∃ t, mg "MOST_WIDTH" = some (.int 16 t)
  c_MOST_SWITCHES : ∃ t, mg "MOST_SWITCHES" = some (.int 8 t)
  c_MOST_DOORS : ∃ t, mg "MOST_DOORS" = some (.int 6 t)
  c_MOST_RULES : ∃ t, mg "MOST_RULES" = some (.int 20 t)
  c_MOST_OUTS : ∃ t, mg "MOST_OUTS" = some (.int 3 t)
  c_MOST_LINKS : ∃ t, mg "MOST_LINKS" = some (.int 24 t)
  c_FIGURES : ∃ t, mg "FIGURES" = some (.str ⟨[48, 49, 50, 51, 52, 53, 54, 55, 56, 57].toArray⟩ t)
  c_SIGNS : ∃ t, mg "SIGNS" = some (.str ⟨[48, 49, 42].toArray⟩ t)
  c_MOST_FIGURES : ∃ t, mg "MOST_FIGURES" = some (.int 9 t)
abbrev s__law_cell_at : Stmt := top 39
abbrev N__law_cell_at : List Str := ["_law_script", "_law_k"]
theorem sc__law_cell_at : FnScope N__law_cell_at ["_law_script", "_law_k"] (defScope s__law_cell_at) := ⟨rfl, rfl, rfl, by decide +kernel, rfl, by decide +kernel, by decide +kernel⟩
def g__law_cell_at : FS :=
    (sSeq (sIf (liftT [0, 1] (tB (c2 gLt (cV 1) (cA (g1 gLen) (aCons (cV 0) aNil))))) (sRet (lift [0, 1] (c2 gIx (cV 0) (cV 1)))) sNext)
    (sRet (lift [] (cK (.int 0)))))
def m__law_cell_at : List D → Out D := runP 2 2 g__law_cell_at

abbrev s__law_pool : Stmt := top 40
abbrev N__law_pool : List Str := ["_law_script", "_law_k", "_law_cell", "_law_seed"]
theorem sc__law_pool : FnScope N__law_pool ["_law_script", "_law_k"] (defScope s__law_pool) := ⟨rfl, rfl, rfl, by decide +kernel, rfl, by decide +kernel, by decide +kernel⟩
def g__law_pool : FS :=
    (sSeq (sSet 2 (lift [0, 1] (cA (chk 2 m__law_cell_at) (aCons (cV 0) (aCons (cV 1) aNil)))))
    (sSeq (sSet 3 (lift [1, 2] (c2 gModI (c2 gMulI (c2 gAddI (c2 gAddI (c2 gModI (cV 2) (cK (.int 2147483629))) (c2 gMulI (c2 gMulI (cK (.int 7919)) (cV 1)) (cV 1))) (cK (.int 1))) (cK (.int 48271))) (cK (.int 2147483647)))))
    (sSeq (sIf (liftT [2] (tB (c2 gLt (cV 2) (c2 gPowI (cK (.int 10)) (cK (.int 18)))))) (sSet 2 (lift [] (cK (.int 0)))) sNext)
    (sRet (lift [2, 3] (cLst (aCons (cV 2) (aCons (c2 gModI (c2 gMulI (cV 3) (cV 3)) (cK (.int 2147483629))) aNil))))))))
def m__law_pool : List D → Out D := runP 2 4 g__law_pool

abbrev s__law_take : Stmt := top 41
abbrev N__law_take : List Str := ["_law_pool_here", "_law_many", "_law_found"]
theorem sc__law_take : FnScope N__law_take ["_law_pool_here", "_law_many"] (defScope s__law_take) := ⟨rfl, rfl, rfl, by decide +kernel, rfl, by decide +kernel, by decide +kernel⟩
def g__law_take : FS :=
    (sSeq (sIf (liftT [0] (tB (c2 gGt (c2 gIx (cV 0) (cK (.int 0))) (cK (.int 0))))) (sSeq (sSet 2 (lift [0, 1] (c2 gModI (c2 gIx (cV 0) (cK (.int 0))) (cV 1))))
    (sSeq (sPut 0 (lift [0, 1] (c2 gFdvI (c2 gIx (cV 0) (cK (.int 0))) (cV 1))) (lift [] (cK (.int 0))))
    (sRet (lift [2] (cV 2))))) sNext)
    (sSeq (sPut 0 (lift [0] (c2 gModI (c2 gAddI (c2 gMulI (c2 gIx (cV 0) (cK (.int 1))) (cK (.int 48271))) (cK (.int 11))) (cK (.int 2147483647)))) (lift [] (cK (.int 1))))
    (sRet (lift [0, 1] (c2 gModI (c2 gFdvI (c2 gModI (c2 gMulI (c2 gIx (cV 0) (cK (.int 1))) (c2 gIx (cV 0) (cK (.int 1)))) (cK (.int 2147483629))) (cK (.int 64))) (cV 1))))))
def m__law_take : List D → Out (D × D) := runX 2 3 g__law_take

abbrev s__law_text : Stmt := top 42
abbrev N__law_text : List Str := ["_law_pool_here", "_law_width", "_law_signs", "_law_turn"]
theorem sc__law_text : FnScope N__law_text ["_law_pool_here", "_law_width", "_law_signs"] (defScope s__law_text) := ⟨rfl, rfl, rfl, by decide +kernel, rfl, by decide +kernel, by decide +kernel⟩
def g__law_text : FS :=
    (sRet (x2S gJoin (lift [] (cK (.str []))) (xLc (iXR1 (liftA [1] (aCons (cV 1) aNil))) [3] (sN 3) xYes (x2 gIx (lift [2] (cV 2)) (xIO 0 2 m__law_take (liftA [2] (aCons (cA (g1 gLen) (aCons (cV 2) aNil)) aNil)))))))
def m__law_text : List D → Out (D × D) := runX 3 4 g__law_text

abbrev s__law_pattern : Stmt := top 43
abbrev N__law_pattern : List Str := ["_law_pool_here", "_law_width", "_law_signs"]
theorem sc__law_pattern : FnScope N__law_pattern ["_law_pool_here", "_law_width"] (defScope s__law_pattern) := ⟨rfl, rfl, rfl, by decide +kernel, rfl, by decide +kernel, by decide +kernel⟩
def g__law_pattern : FS :=
    (sSeq (sSet 2 (x2 gIx (lift [] (cLst (aCons (cK (.str [48, 49, 42])) (aCons (cK (.str [42, 42, 42, 48, 49])) (aCons (cK (.str [48, 42])) (aCons (cK (.str [49, 42])) aNil)))))) (xIO 0 2 m__law_take (liftA [] (aCons (cK (.int 4)) aNil)))))
    (sRet (xIO 0 3 m__law_text (liftA [1, 2] (aCons (cV 1) (aCons (cV 2) aNil))))))
def m__law_pattern : List D → Out (D × D) := runX 2 3 g__law_pattern

abbrev s__law_rule : Stmt := top 44
abbrev N__law_rule : List Str := ["_law_pool_here", "_law_width", "_law_doors", "_law_door", "_law_outs", "_law_turn", "_law_by"]
theorem sc__law_rule : FnScope N__law_rule ["_law_pool_here", "_law_width", "_law_doors"] (defScope s__law_rule) := ⟨rfl, rfl, rfl, by decide +kernel, rfl, by decide +kernel, by decide +kernel⟩
def g__law_rule : FS :=
    (sSeq (sSet 3 (x2 gIx (xLst (xCons (lift [] (cK .non)) (xCons (lift [] (cK .non)) (xCons (xIO 0 2 m__law_take (liftA [2] (aCons (cV 2) aNil))) xNil)))) (xIO 0 2 m__law_take (liftA [] (aCons (cK (.int 3)) aNil)))))
    (sSeq (sSet 4 (lift [] (cLst aNil)))
    (sSeq (sFor (iXR1 (xCons (x2 gIx (lift [] (cLst (aCons (cK (.int 1)) (aCons (cK (.int 1)) (aCons (cK (.int 1)) (aCons (cK (.int 2)) (aCons (cK (.int 2)) (aCons (cK (.int 3)) (aCons (cK (.int 0)) aNil))))))))) (xIO 0 2 m__law_take (liftA [] (aCons (cK (.int 7)) aNil)))) xNil)) (sN 5) (sSeq (sSet 6 (x2 gIx (xLst (xCons (lift [1] (c2 gMulS (cK (.str [42])) (cV 1))) (xCons (xIO 0 3 m__law_text (liftA [1] (aCons (cV 1) (aCons (cK (.str [42, 42, 42, 48, 49])) aNil)))) xNil))) (xIO 0 2 m__law_take (liftA [] (aCons (cK (.int 2)) aNil)))))
    (sDrop (sApp 4 (xTup (xCons (xIO 0 2 m__law_take (liftA [2] (aCons (cV 2) aNil))) (xCons (lift [6] (cV 6)) xNil)))))))
    (sRet (xTup (xCons (lift [3] (cV 3)) (xCons (xIO 0 2 m__law_pattern (liftA [1] (aCons (cV 1) aNil))) (xCons (lift [4] (cV 4)) xNil))))))))
def m__law_rule : List D → Out (D × D) := runX 3 7 g__law_rule

abbrev s__law_net : Stmt := top 45
abbrev N__law_net : List Str := ["_law_pool_here", "_law_width", "_law_many", "_law_switches", "_law_turn", "_law_free", "_law_links", "_law_doors", "_law_rules", "_law_number", "_law_one", "_law_other", "_law_k", "_law_door"]
theorem sc__law_net : FnScope N__law_net ["_law_pool_here", "_law_width", "_law_many"] (defScope s__law_net) := ⟨rfl, rfl, rfl, by decide +kernel, rfl, by decide +kernel, by decide +kernel⟩
def g__law_net : FS :=
    (sSeq (sSet 3 (lift [] (cLst aNil)))
    (sSeq (sFor (iXR1 (xCons (x2 gAddI (lift [] (cK (.int 1))) (xIO 0 2 m__law_take (liftA [2] (aCons (cV 2) aNil)))) xNil)) (sN 4) (sSeq (sSet 7 (x2 gAddI (lift [] (cK (.int 1))) (xIO 0 2 m__law_take (liftA [] (aCons (cK (.int 3)) aNil)))))
    (sSeq (sSet 8 (xLc (iXR1 (xCons (xIO 0 2 m__law_take (liftA [] (aCons (cK (.int 5)) aNil))) xNil)) [12] (sN 12) xYes (xIO 0 3 m__law_rule (liftA [1, 7] (aCons (cV 1) (aCons (cV 7) aNil))))))
    (sSeq (sIf (xTB (x2 gGt (xIO 0 2 m__law_take (liftA [] (aCons (cK (.int 3)) aNil))) (lift [] (cK (.int 0))))) (sDrop (sApp 8 (xTup (xCons (lift [] (cK .non)) (xCons (lift [1] (c2 gMulS (cK (.str [42])) (cV 1))) (xCons (xLst (xCons (xTup (xCons (xIO 0 2 m__law_take (liftA [7] (aCons (cV 7) aNil))) (xCons (lift [1] (c2 gMulS (cK (.str [42])) (cV 1))) xNil))) xNil)) xNil)))))) sNext)
    (sDrop (sApp 3 (lift [7, 8] (cTup (aCons (cV 7) (aCons (cV 8) aNil))))))))))
    (sSeq (sSet 5 (lift [] (cLst aNil)))
    (sSeq (sFor (liftI [3] (iEn (aCons (cV 3) aNil))) (sT 2 (sCons (sN 9) (sCons (sN 10) sNil))) (sSet 5 (lift [5, 9, 10, 13] (c2 gCat (cV 5) (cFz (cLc (iR1 (aCons (c2 gIx (cV 10) (cK (.int 0))) aNil)) [13] (sN 13) tYes' (cTup (aCons (cV 9) (aCons (cV 13) aNil)))))))))
    (sSeq (sSet 6 (lift [] (cLst aNil)))
    (sSeq (whileS (xAnd (liftT [5] (tB (c2 gGt (cA (g1 gLen) (aCons (cV 5) aNil)) (cK (.int 1))))) (xTB (x2 gGt (xIO 0 2 m__law_take (liftA [] (aCons (cK (.int 4)) aNil))) (lift [] (cK (.int 0)))))) (sSeq (sSet 10 (sPopAt 5 (xIO 0 2 m__law_take (liftA [5] (aCons (cA (g1 gLen) (aCons (cV 5) aNil)) aNil)))))
    (sSeq (sSet 11 (sPopAt 5 (xIO 0 2 m__law_take (liftA [5] (aCons (cA (g1 gLen) (aCons (cV 5) aNil)) aNil)))))
    (sDrop (sApp 6 (lift [10, 11] (cTup (aCons (cA gMnD (aCons (cV 10) (aCons (cV 11) aNil))) (aCons (cA gMxD (aCons (cV 10) (aCons (cV 11) aNil))) aNil)))))))) 100000)
    (sRet (lift [1, 3, 6] (cTup (aCons (cV 1) (aCons (cV 3) (aCons (cV 6) aNil))))))))))))
def m__law_net : List D → Out (D × D) := runX 3 14 g__law_net

abbrev s__law_rule_row : Stmt := top 47
abbrev N__law_rule_row : List Str := ["_law_rule_here", "_law_row", "_law_door", "_law_pattern_here", "_law_outs", "_law_spot_here", "_law_by"]
theorem sc__law_rule_row : FnScope N__law_rule_row ["_law_rule_here"] (defScope s__law_rule_row) := ⟨rfl, rfl, rfl, by decide +kernel, rfl, by decide +kernel, by decide +kernel⟩
def g__law_rule_row : FS :=
    (sSeq (sAsg (lift [0] (cV 0)) (sT 3 (sCons (sN 2) (sCons (sN 3) (sCons (sN 4) sNil)))))
    (sSeq (sSet 1 (lift [2, 3] (cLst (aCons (c2 gIx (cFz (cLst (aCons (cK (.str [42])) (aCons (cA (g1 gStr2) (aCons (cV 2) aNil)) aNil)))) (cA (g1 gInt) (aCons (c2 (gIsN true) (cV 2) (cK .non)) aNil))) (aCons (cV 3) aNil)))))
    (sSeq (sFor (liftI [4] (iL (cV 4))) (sT 2 (sCons (sN 5) (sCons (sN 6) sNil))) (sDrop (sApp 1 (lift [5, 6] (c2 gAddS (c2 gAddS (cA (g1 gStr) (aCons (cV 5) aNil)) (cK (.str [58]))) (cV 6))))))
    (sRet (lift [1, 4] (c2S gJoin (cK (.str [32])) (cFz (c2 gCat (cV 1) (cFz (c2 gMulL (cFz (cLst (aCons (cK (.str [45])) aNil))) (cA (g1 gInt) (aCons (c2 gEq (cV 4) (cFz (cLst aNil))) aNil))))))))))))
def m__law_rule_row : List D → Out D := runP 1 7 g__law_rule_row

abbrev s__law_spot : Stmt := top 46
abbrev N__law_spot : List Str := ["_law_place"]
theorem sc__law_spot : FnScope N__law_spot ["_law_place"] (defScope s__law_spot) := ⟨rfl, rfl, rfl, by decide +kernel, rfl, by decide +kernel, by decide +kernel⟩
def g__law_spot : FS :=
    (sRet (lift [0] (c2 gAddS (c2 gAddS (cA (g1 gStr) (aCons (c2 gIx (cV 0) (cK (.int 0))) aNil)) (cK (.str [46]))) (cA (g1 gStr2) (aCons (c2 gIx (cV 0) (cK (.int 1))) aNil)))))
def m__law_spot : List D → Out D := runP 1 1 g__law_spot

abbrev s__law_written : Stmt := top 48
abbrev N__law_written : List Str := ["_law_net_here", "_law_rows", "_law_doors", "_law_rules", "_law_rule_here", "_law_one", "_law_other"]
theorem sc__law_written : FnScope N__law_written ["_law_net_here"] (defScope s__law_written) := ⟨rfl, rfl, rfl, by decide +kernel, rfl, by decide +kernel, by decide +kernel⟩
def g__law_written : FS :=
    (sSeq (sSet 1 (lift [0] (cLst (aCons (c2 gAddS (cK (.str [119, 105, 100, 116, 104, 32])) (cA (g1 gStr) (aCons (c2 gIx (cV 0) (cK (.int 0))) aNil))) aNil))))
    (sSeq (sFor (liftI [0] (iL (c2 gIx (cV 0) (cK (.int 1))))) (sT 2 (sCons (sN 2) (sCons (sN 3) sNil))) (sSeq (sDrop (sApp 1 (lift [2] (c2 gAddS (cK (.str [115, 119, 105, 116, 99, 104, 32])) (cA (g1 gStr) (aCons (cV 2) aNil))))))
    (sFor (liftI [3] (iL (cV 3))) (sN 4) (sDrop (sApp 1 (lift [4] (cA (chk 1 m__law_rule_row) (aCons (cV 4) aNil))))))))
    (sSeq (sFor (liftI [0] (iL (c2 gIx (cV 0) (cK (.int 2))))) (sT 2 (sCons (sN 5) (sCons (sN 6) sNil))) (sDrop (sApp 1 (lift [5, 6] (c2 gAddS (c2 gAddS (c2 gAddS (cK (.str [108, 105, 110, 107, 32])) (cFz (cA (chk 1 m__law_spot) (aCons (cV 5) aNil)))) (cK (.str [32]))) (cFz (cA (chk 1 m__law_spot) (aCons (cV 6) aNil))))))))
    (sRet (lift [1] (c2S gJoin (cK (.str [10])) (cV 1)))))))
def m__law_written : List D → Out D := runP 1 7 g__law_written

abbrev s_Reading___init__ : Stmt := inClass (top 36) 0
abbrev N_Reading___init__ : List Str := ["self"]
theorem sc_Reading___init__ : FnScope N_Reading___init__ ["self"] (defScope s_Reading___init__) := ⟨rfl, rfl, rfl, by decide +kernel, rfl, by decide +kernel, by decide +kernel⟩
def g_Reading___init__ : FS :=
    (sSeq (sFldS 0 "Reading" "own_width" (lift [] (cK .non)))
    (sSeq (sFldS 0 "Reading" "own_switches" (lift [] (cLst aNil)))
    (sFldS 0 "Reading" "own_links" (lift [] (cLst aNil)))))
def m_Reading___init__ : List D → Out (D × D) := runX 1 1 g_Reading___init__

abbrev s_Reading_netM : Stmt := inClass (top 36) 6
abbrev N_Reading_netM : List Str := ["self"]
theorem sc_Reading_netM : FnScope N_Reading_netM ["self"] (defScope s_Reading_netM) := ⟨rfl, rfl, rfl, by decide +kernel, rfl, by decide +kernel, by decide +kernel⟩
def g_Reading_netM : FS :=
    (sRet (xTup (xCons (xMvP 0 (pFld 0 "Reading" "own_width" (pVar 0))) (xCons (xMvP 0 (pFld 0 "Reading" "own_switches" (pVar 0))) (xCons (xMvP 0 (pFld 0 "Reading" "own_links" (pVar 0))) xNil)))))
def m_Reading_netM : List D → Out (D × D) := runX 1 1 g_Reading_netM

abbrev s_number_of : Stmt := top 31
abbrev N_number_of : List Str := ["word", "sign"]
theorem sc_number_of : FnScope N_number_of ["word"] (defScope s_number_of) := ⟨rfl, rfl, rfl, by decide +kernel, rfl, by decide +kernel, by decide +kernel⟩
def g_number_of : FS :=
    (sSeq (sIf (liftT [0, 1] (tOr (tNot (tB (c3 gLe gLe (cK (.int 1)) (cA (g1 gLen) (aCons (cV 0) aNil)) (cK (.int 9))))) (tNot (tB (cA (g1 gAll) (aCons (cFz (cLc (iS (cV 0)) [1] (sN 1) tYes' (c2 (gIn false) (cV 1) (cK (.str [48, 49, 50, 51, 52, 53, 54, 55, 56, 57]))))) aNil)))))) (sRet (lift [] (cK .non))) sNext)
    (sSeq (sIf (liftT [0] (tAnd (tB (c2 gNe (cV 0) (cK (.str [48])))) (tB (c2S gStarts (cV 0) (cK (.str [48])))))) (sRet (lift [] (cK .non))) sNext)
    (sRet (lift [0] (cA (g1 gIntS) (aCons (cV 0) aNil))))))
def m_number_of : List D → Out D := runP 1 2 g_number_of

abbrev s_Reading_take_width : Stmt := inClass (top 36) 2
abbrev N_Reading_take_width : List Str := ["self", "words"]
theorem sc_Reading_take_width : FnScope N_Reading_take_width ["self", "words"] (defScope s_Reading_take_width) := ⟨rfl, rfl, rfl, by decide +kernel, rfl, by decide +kernel, by decide +kernel⟩
def g_Reading_take_width : FS :=
    (sSeq (sIf (liftT [1] (tOr (tB (c2 gNe (cA (g1 gLen) (aCons (cV 1) aNil)) (cK (.int 2)))) (tOr (tB (c2 gNe (c2 gIx (cV 1) (cK (.int 0))) (cK (.str [119, 105, 100, 116, 104])))) (tB (c2 (gIsN false) (cFz (cA (chk 1 m_number_of) (aCons (c2 gIx (cV 1) (cK (.int 1))) aNil))) (cK .non)))))) (fun _ => .bad) sNext)
    (sFldS 0 "Reading" "own_width" (lift [1] (cA (chk 1 m_number_of) (aCons (c2 gIx (cV 1) (cK (.int 1))) aNil)))))
def m_Reading_take_width : List D → Out (D × D) := runX 2 2 g_Reading_take_width

abbrev s_Reading_take_switch : Stmt := inClass (top 36) 3
abbrev N_Reading_take_switch : List Str := ["self", "words"]
theorem sc_Reading_take_switch : FnScope N_Reading_take_switch ["self", "words"] (defScope s_Reading_take_switch) := ⟨rfl, rfl, rfl, by decide +kernel, rfl, by decide +kernel, by decide +kernel⟩
def g_Reading_take_switch : FS :=
    (sSeq (sIf (liftT [0, 1] (tOr (tB (c2 gNe (cA (g1 gLen) (aCons (cV 1) aNil)) (cK (.int 2)))) (tOr (tB (c2 (gIsN false) (cFz (cA (chk 1 m_number_of) (aCons (c2 gIx (cV 1) (cK (.int 1))) aNil))) (cK .non))) (tB (c2 gNe (c1 (gFld "Reading" "own_links") (cV 0)) (cFz (cLst aNil))))))) (fun _ => .bad) sNext)
    (sDrop (sAppP 0 (pFld 0 "Reading" "own_switches" (pVar 0)) [1] (cTup (aCons (cA (chk 1 m_number_of) (aCons (c2 gIx (cV 1) (cK (.int 1))) aNil)) (aCons (cLst aNil) aNil))))))
def m_Reading_take_switch : List D → Out (D × D) := runX 2 2 g_Reading_take_switch

abbrev s_place_of : Stmt := top 32
abbrev N_place_of : List Str := ["word", "numbers", "part"]
theorem sc_place_of : FnScope N_place_of ["word"] (defScope s_place_of) := ⟨rfl, rfl, rfl, by decide +kernel, rfl, by decide +kernel, by decide +kernel⟩
def g_place_of : FS :=
    (sSeq (sSet 1 (lift [0, 2] (cLc (iL (cFz (c2S gSplit (cV 0) (cK (.str [46]))))) [2] (sN 2) tYes' (cA (chk 1 m_number_of) (aCons (cV 2) aNil)))))
    (sSeq (sIf (liftT [1] (tOr (tB (c2 gNe (cA (g1 gLen) (aCons (cV 1) aNil)) (cK (.int 2)))) (tB (c2 (gIn false) (cK .non) (cV 1))))) (sRet (lift [] (cK .non))) sNext)
    (sRet (lift [1] (c1 gTupOf (cV 1))))))
def m_place_of : List D → Out D := runP 1 3 g_place_of

abbrev s_Reading_take_link : Stmt := inClass (top 36) 4
abbrev N_Reading_take_link : List Str := ["self", "words", "places", "word"]
theorem sc_Reading_take_link : FnScope N_Reading_take_link ["self", "words"] (defScope s_Reading_take_link) := ⟨rfl, rfl, rfl, by decide +kernel, rfl, by decide +kernel, by decide +kernel⟩
def g_Reading_take_link : FS :=
    (sSeq (sSet 2 (lift [1, 3] (cLc (iL (cFz (cSl gSl (cV 1) (oSome (cK (.int 1))) oNone))) [3] (sN 3) tYes' (cA (chk 1 m_place_of) (aCons (cV 3) aNil)))))
    (sSeq (sIf (liftT [2] (tOr (tB (c2 gNe (cA (g1 gLen) (aCons (cV 2) aNil)) (cK (.int 2)))) (tB (c2 (gIn false) (cK .non) (cV 2))))) (fun _ => .bad) sNext)
    (sDrop (sAppP 0 (pFld 0 "Reading" "own_links" (pVar 0)) [2] (c1 gTupOf (cV 2))))))
def m_Reading_take_link : List D → Out (D × D) := runX 2 4 g_Reading_take_link

abbrev s_is_signs : Stmt := top 33
abbrev N_is_signs : List Str := ["word", "sign"]
theorem sc_is_signs : FnScope N_is_signs ["word"] (defScope s_is_signs) := ⟨rfl, rfl, rfl, by decide +kernel, rfl, by decide +kernel, by decide +kernel⟩
def g_is_signs : FS :=
    (sRet (lift [0, 1] (cAnd (c2 gNe (cV 0) (cK (.str []))) (cA (g1 gAll) (aCons (cFz (cLc (iS (cV 0)) [1] (sN 1) tYes' (c2 (gIn false) (cV 1) (cK (.str [48, 49, 42]))))) aNil)))))
def m_is_signs : List D → Out D := runP 1 2 g_is_signs

abbrev s_out_of : Stmt := top 34
abbrev N_out_of : List Str := ["word", "head", "colon", "tail"]
theorem sc_out_of : FnScope N_out_of ["word"] (defScope s_out_of) := ⟨rfl, rfl, rfl, by decide +kernel, rfl, by decide +kernel, by decide +kernel⟩
def g_out_of : FS :=
    (sSeq (sAsg (lift [0] (c2S gPart (cV 0) (cK (.str [58])))) (sT 3 (sCons (sN 1) (sCons (sN 2) (sCons (sN 3) sNil)))))
    (sSeq (sIf (liftT [1, 3] (tOr (tB (c2 (gIsN false) (cFz (cA (chk 1 m_number_of) (aCons (cV 1) aNil))) (cK .non))) (tNot (tB (cFz (cA (chk 1 m_is_signs) (aCons (cV 3) aNil))))))) (sRet (lift [] (cK .non))) sNext)
    (sRet (lift [1, 3] (cTup (aCons (cA (chk 1 m_number_of) (aCons (cV 1) aNil)) (aCons (cV 3) aNil)))))))
def m_out_of : List D → Out D := runP 1 4 g_out_of

abbrev s_rule_of : Stmt := top 35
abbrev N_rule_of : List Str := ["words", "outs", "word"]
theorem sc_rule_of : FnScope N_rule_of ["words"] (defScope s_rule_of) := ⟨rfl, rfl, rfl, by decide +kernel, rfl, by decide +kernel, by decide +kernel⟩
def g_rule_of : FS :=
    (sSeq (sIf (liftT [0] (tOr (tB (c2 gLt (cA (g1 gLen) (aCons (cV 0) aNil)) (cK (.int 3)))) (tOr (tNot (tB (cFz (cA (chk 1 m_is_signs) (aCons (c2 gIx (cV 0) (cK (.int 1))) aNil))))) (tAnd (tB (c2 gNe (c2 gIx (cV 0) (cK (.int 0))) (cK (.str [42])))) (tB (c2 (gIsN false) (cFz (cA (chk 1 m_number_of) (aCons (c2 gIx (cV 0) (cK (.int 0))) aNil))) (cK .non))))))) (sRet (lift [] (cK .non))) sNext)
    (sSeq (sSet 1 (lift [] (cLst aNil)))
    (sSeq (sIf (liftT [0] (tB (c2 gNe (cFz (cSl gSl (cV 0) (oSome (cK (.int 2))) oNone)) (cFz (cLst (aCons (cK (.str [45])) aNil)))))) (sSet 1 (lift [0, 2] (cLc (iL (cFz (cSl gSl (cV 0) (oSome (cK (.int 2))) oNone))) [2] (sN 2) tYes' (cA (chk 1 m_out_of) (aCons (cV 2) aNil))))) sNext)
    (sSeq (sIf (liftT [1] (tB (c2 (gIn false) (cK .non) (cV 1)))) (sRet (lift [] (cK .non))) sNext)
    (sRet (xTup (xCons (lift [0] (c2 gIx (cFz (cLst (aCons (cA (chk 1 m_number_of) (aCons (c2 gIx (cV 0) (cK (.int 0))) aNil)) (aCons (cK .non) aNil)))) (cA (g1 gInt) (aCons (c2 gEq (c2 gIx (cV 0) (cK (.int 0))) (cK (.str [42]))) aNil)))) (xCons (lift [0] (c2 gIx (cV 0) (cK (.int 1)))) (xCons (xMv 1) xNil)))))))))
def m_rule_of : List D → Out D := runP 1 3 g_rule_of

abbrev s_Reading_take_rule : Stmt := inClass (top 36) 5
abbrev N_Reading_take_rule : List Str := ["self", "words", "rule"]
theorem sc_Reading_take_rule : FnScope N_Reading_take_rule ["self", "words"] (defScope s_Reading_take_rule) := ⟨rfl, rfl, rfl, by decide +kernel, rfl, by decide +kernel, by decide +kernel⟩
def g_Reading_take_rule : FS :=
    (sSeq (sSet 2 (lift [1] (cA (chk 1 m_rule_of) (aCons (cV 1) aNil))))
    (sSeq (sIf (liftT [0, 2] (tOr (tB (c2 (gIsN false) (cV 2) (cK .non))) (tOr (tB (c2 gEq (c1 (gFld "Reading" "own_switches") (cV 0)) (cFz (cLst aNil)))) (tB (c2 gNe (c1 (gFld "Reading" "own_links") (cV 0)) (cFz (cLst aNil))))))) (fun _ => .bad) sNext)
    (sDrop (sAppPM 0 2 (pIx 0 [] (pIx 0 [] (pFld 0 "Reading" "own_switches" (pVar 0)) (c1 gNeg (cK (.int 1)))) (cK (.int 1)))))))
def m_Reading_take_rule : List D → Out (D × D) := runX 2 3 g_Reading_take_rule

abbrev s_Reading_take : Stmt := inClass (top 36) 1
abbrev N_Reading_take : List Str := ["self", "row", "words"]
theorem sc_Reading_take : FnScope N_Reading_take ["self", "row"] (defScope s_Reading_take) := ⟨rfl, rfl, rfl, by decide +kernel, rfl, by decide +kernel, by decide +kernel⟩
def g_Reading_take : FS :=
    (sSeq (sSet 2 (lift [1] (c2S gSplit (cV 1) (cK (.str [32])))))
    (sIf (liftT [0] (tB (c2 (gIsN false) (c1 (gFld "Reading" "own_width") (cV 0)) (cK .non)))) (sDrop (xMIO 0 "Reading" "take_width" 2 m_Reading_take_width (liftA [2] (aCons (cV 2) aNil)))) (sIf (liftT [2] (tB (c2 gEq (c2 gIx (cV 2) (cK (.int 0))) (cK (.str [115, 119, 105, 116, 99, 104]))))) (sDrop (xMIO 0 "Reading" "take_switch" 2 m_Reading_take_switch (liftA [2] (aCons (cV 2) aNil)))) (sIf (liftT [2] (tB (c2 gEq (c2 gIx (cV 2) (cK (.int 0))) (cK (.str [108, 105, 110, 107]))))) (sDrop (xMIO 0 "Reading" "take_link" 2 m_Reading_take_link (liftA [2] (aCons (cV 2) aNil)))) (sDrop (xMIO 0 "Reading" "take_rule" 2 m_Reading_take_rule (liftA [2] (aCons (cV 2) aNil))))))))
def m_Reading_take : List D → Out (D × D) := runX 2 3 g_Reading_take

abbrev s_is_whole : Stmt := top 6
abbrev N_is_whole : List Str := ["thing"]
theorem sc_is_whole : FnScope N_is_whole ["thing"] (defScope s_is_whole) := ⟨rfl, rfl, rfl, by decide +kernel, rfl, by decide +kernel, by decide +kernel⟩
def g_is_whole : FS :=
    (sRet (lift [0] (cAnd (c1 (gIsi .int) (cV 0)) (cNot (c1 (gIsi .bool) (cV 0))))))
def m_is_whole : List D → Out D := runP 1 1 g_is_whole

abbrev s_is_below : Stmt := top 16
abbrev N_is_below : List Str := ["thing", "many"]
theorem sc_is_below : FnScope N_is_below ["thing", "many"] (defScope s_is_below) := ⟨rfl, rfl, rfl, by decide +kernel, rfl, by decide +kernel, by decide +kernel⟩
def g_is_below : FS :=
    (sRet (lift [0, 1] (cAnd (cFz (cA (chk 1 m_is_whole) (aCons (cV 0) aNil))) (c3 gLe gLt (cK (.int 0)) (cV 0) (cV 1)))))
def m_is_below : List D → Out D := runP 2 2 g_is_below

abbrev s_is_place : Stmt := top 20
abbrev N_is_place : List Str := ["switches", "thing"]
theorem sc_is_place : FnScope N_is_place ["switches", "thing"] (defScope s_is_place) := ⟨rfl, rfl, rfl, by decide +kernel, rfl, by decide +kernel, by decide +kernel⟩
def g_is_place : FS :=
    (sSeq (sIf (liftT [0, 1] (tOr (tNot (tB (c1 (gIsi .tuple) (cV 1)))) (tOr (tB (c2 gNe (cA (g1 gLen) (aCons (cV 1) aNil)) (cK (.int 2)))) (tNot (tB (cFz (cA (chk 2 m_is_below) (aCons (c2 gIx (cV 1) (cK (.int 0))) (aCons (cA (g1 gLen) (aCons (cV 0) aNil)) aNil))))))))) (sRet (lift [] (cK (.bl false)))) sNext)
    (sRet (lift [0, 1] (cA (chk 2 m_is_below) (aCons (c2 gIx (cV 1) (cK (.int 1))) (aCons (c2 gIx (c2 gIx (cV 0) (c2 gIx (cV 1) (cK (.int 0)))) (cK (.int 0))) aNil))))))
def m_is_place : List D → Out D := runP 2 2 g_is_place

abbrev s_look_at_links : Stmt := top 21
abbrev N_look_at_links : List Str := ["switches", "links", "seen", "number", "link", "one"]
theorem sc_look_at_links : FnScope N_look_at_links ["switches", "links"] (defScope s_look_at_links) := ⟨rfl, rfl, rfl, by decide +kernel, rfl, by decide +kernel, by decide +kernel⟩
def g_look_at_links : FS :=
    (sSeq (sIf (liftT [1] (tOr (tNot (tB (c1 (gIsi .list) (cV 1)))) (tB (c2 gGt (cA (g1 gLen) (aCons (cV 1) aNil)) (cK (.int 24)))))) (fun _ => .bad) sNext)
    (sSeq (sSet 2 (lift [] (cLst aNil)))
    (sFor (liftI [1] (iEn (aCons (cV 1) aNil))) (sT 2 (sCons (sN 3) (sCons (sN 4) sNil))) (sSeq (sIf (liftT [0, 4, 5] (tOr (tNot (tB (c1 (gIsi .tuple) (cV 4)))) (tOr (tB (c2 gNe (cA (g1 gLen) (aCons (cV 4) aNil)) (cK (.int 2)))) (tNot (tB (cA (g1 gAll) (aCons (cFz (cLc (iT (cV 4)) [5] (sN 5) tYes' (cA (chk 2 m_is_place) (aCons (cV 0) (aCons (cV 5) aNil))))) aNil))))))) (fun _ => .bad) sNext)
    (sSeq (sIf (liftT [2, 4] (tOr (tB (c2 gGeD (c2 gIx (cV 4) (cK (.int 0))) (c2 gIx (cV 4) (cK (.int 1))))) (tOr (tB (c2 (gIn false) (c2 gIx (cV 4) (cK (.int 0))) (cV 2))) (tB (c2 (gIn false) (c2 gIx (cV 4) (cK (.int 1))) (cV 2)))))) (fun _ => .bad) sNext)
    (sDrop (sExtT 2 (pVar 2) [4] (cV 4))))))))
def m_look_at_links : List D → Out D := runP 2 6 g_look_at_links

abbrev s_is_width : Stmt := top 7
abbrev N_is_width : List Str := ["thing"]
theorem sc_is_width : FnScope N_is_width ["thing"] (defScope s_is_width) := ⟨rfl, rfl, rfl, by decide +kernel, rfl, by decide +kernel, by decide +kernel⟩
def g_is_width : FS :=
    (sRet (lift [0] (cAnd (cFz (cA (chk 1 m_is_whole) (aCons (cV 0) aNil))) (c3 gLe gLe (cK (.int 1)) (cV 0) (cK (.int 16))))))
def m_is_width : List D → Out D := runP 1 1 g_is_width

abbrev s_is_of : Stmt := top 8
abbrev N_is_of : List Str := ["thing", "width", "signs", "sign"]
theorem sc_is_of : FnScope N_is_of ["thing", "width", "signs"] (defScope s_is_of) := ⟨rfl, rfl, rfl, by decide +kernel, rfl, by decide +kernel, by decide +kernel⟩
def g_is_of : FS :=
    (sRet (lift [0, 1, 2, 3] (cAnd (c1 (gIsi .str) (cV 0)) (cAnd (c2 gEq (cA (g1 gLen) (aCons (cV 0) aNil)) (cV 1)) (cA (g1 gAll) (aCons (cFz (cLc (iS (cV 0)) [3] (sN 3) tYes' (c2 (gIn false) (cV 3) (cV 2)))) aNil))))))
def m_is_of : List D → Out D := runP 3 4 g_is_of

abbrev s_is_pattern : Stmt := top 9
abbrev N_is_pattern : List Str := ["thing", "width"]
theorem sc_is_pattern : FnScope N_is_pattern ["thing", "width"] (defScope s_is_pattern) := ⟨rfl, rfl, rfl, by decide +kernel, rfl, by decide +kernel, by decide +kernel⟩
def g_is_pattern : FS :=
    (sRet (lift [0, 1] (cA (chk 3 m_is_of) (aCons (cV 0) (aCons (cV 1) (aCons (cK (.str [48, 49, 42])) aNil))))))
def m_is_pattern : List D → Out D := runP 2 2 g_is_pattern

abbrev s_is_out : Stmt := top 17
abbrev N_is_out : List Str := ["width", "doors", "thing"]
theorem sc_is_out : FnScope N_is_out ["width", "doors", "thing"] (defScope s_is_out) := ⟨rfl, rfl, rfl, by decide +kernel, rfl, by decide +kernel, by decide +kernel⟩
def g_is_out : FS :=
    (sSeq (sIf (liftT [2] (tOr (tNot (tB (c1 (gIsi .tuple) (cV 2)))) (tB (c2 gNe (cA (g1 gLen) (aCons (cV 2) aNil)) (cK (.int 2)))))) (sRet (lift [] (cK (.bl false)))) sNext)
    (sRet (lift [0, 1, 2] (cAnd (cFz (cA (chk 2 m_is_below) (aCons (c2 gIx (cV 2) (cK (.int 0))) (aCons (cV 1) aNil)))) (cA (chk 2 m_is_pattern) (aCons (c2 gIx (cV 2) (cK (.int 1))) (aCons (cV 0) aNil)))))))
def m_is_out : List D → Out D := runP 3 3 g_is_out

abbrev s_is_rule : Stmt := top 18
abbrev N_is_rule : List Str := ["width", "doors", "thing", "door", "pattern", "outs", "out"]
theorem sc_is_rule : FnScope N_is_rule ["width", "doors", "thing"] (defScope s_is_rule) := ⟨rfl, rfl, rfl, by decide +kernel, rfl, by decide +kernel, by decide +kernel⟩
def g_is_rule : FS :=
    (sSeq (sIf (liftT [2] (tOr (tNot (tB (c1 (gIsi .tuple) (cV 2)))) (tB (c2 gNe (cA (g1 gLen) (aCons (cV 2) aNil)) (cK (.int 3)))))) (sRet (lift [] (cK (.bl false)))) sNext)
    (sSeq (sAsg (lift [2] (cV 2)) (sT 3 (sCons (sN 3) (sCons (sN 4) (sCons (sN 5) sNil)))))
    (sSeq (sIf (liftT [0, 1, 3, 4] (tOr (tAnd (tB (c2 (gIsN true) (cV 3) (cK .non))) (tNot (tB (cFz (cA (chk 2 m_is_below) (aCons (cV 3) (aCons (cV 1) aNil))))))) (tNot (tB (cFz (cA (chk 2 m_is_pattern) (aCons (cV 4) (aCons (cV 0) aNil)))))))) (sRet (lift [] (cK (.bl false)))) sNext)
    (sSeq (sIf (liftT [5] (tOr (tNot (tB (c1 (gIsi .list) (cV 5)))) (tB (c2 gGt (cA (g1 gLen) (aCons (cV 5) aNil)) (cK (.int 3)))))) (sRet (lift [] (cK (.bl false)))) sNext)
    (sRet (lift [0, 1, 5, 6] (cA (g1 gAll) (aCons (cFz (cLc (iL (cV 5)) [6] (sN 6) tYes' (cA (chk 3 m_is_out) (aCons (cV 0) (aCons (cV 1) (aCons (cV 6) aNil)))))) aNil))))))))
def m_is_rule : List D → Out D := runP 3 7 g_is_rule

abbrev s_look_at_switch : Stmt := top 19
abbrev N_look_at_switch : List Str := ["width", "number", "thing", "doors", "rules", "rule", "one"]
theorem sc_look_at_switch : FnScope N_look_at_switch ["width", "number", "thing"] (defScope s_look_at_switch) := ⟨rfl, rfl, rfl, by decide +kernel, rfl, by decide +kernel, by decide +kernel⟩
def g_look_at_switch : FS :=
    (sSeq (sIf (liftT [2] (tOr (tNot (tB (c1 (gIsi .tuple) (cV 2)))) (tOr (tB (c2 gNe (cA (g1 gLen) (aCons (cV 2) aNil)) (cK (.int 2)))) (tOr (tNot (tB (cFz (cA (chk 2 m_is_below) (aCons (c2 gIx (cV 2) (cK (.int 0))) (aCons (c2 gAddI (cK (.int 6)) (cK (.int 1))) aNil)))))) (tB (c2 gEq (c2 gIx (cV 2) (cK (.int 0))) (cK (.int 0)))))))) (fun _ => .bad) sNext)
    (sSeq (sAsg (lift [2] (cV 2)) (sT 2 (sCons (sN 3) (sCons (sN 4) sNil))))
    (sSeq (sIf (liftT [4] (tOr (tNot (tB (c1 (gIsi .list) (cV 4)))) (tB (c2 gGt (cA (g1 gLen) (aCons (cV 4) aNil)) (cK (.int 20)))))) (fun _ => .bad) sNext)
    (sFor (liftI [4] (iEn (aCons (cV 4) aNil))) (sT 2 (sCons (sN 5) (sCons (sN 6) sNil))) (sIf (liftT [0, 3, 6] (tNot (tB (cFz (cA (chk 3 m_is_rule) (aCons (cV 0) (aCons (cV 3) (aCons (cV 6) aNil)))))))) (fun _ => .bad) sNext)))))
def m_look_at_switch : List D → Out D := runP 3 7 g_look_at_switch

abbrev s_look_at_net : Stmt := top 22
abbrev N_look_at_net : List Str := ["thing", "width", "switches", "links", "number", "one"]
theorem sc_look_at_net : FnScope N_look_at_net ["thing"] (defScope s_look_at_net) := ⟨rfl, rfl, rfl, by decide +kernel, rfl, by decide +kernel, by decide +kernel⟩
def g_look_at_net : FS :=
    (sSeq (sIf (liftT [0] (tOr (tNot (tB (c1 (gIsi .tuple) (cV 0)))) (tB (c2 gNe (cA (g1 gLen) (aCons (cV 0) aNil)) (cK (.int 3)))))) (fun _ => .bad) sNext)
    (sSeq (sAsg (lift [0] (cV 0)) (sT 3 (sCons (sN 1) (sCons (sN 2) (sCons (sN 3) sNil)))))
    (sSeq (sIf (liftT [1] (tNot (tB (cFz (cA (chk 1 m_is_width) (aCons (cV 1) aNil)))))) (fun _ => .bad) sNext)
    (sSeq (sIf (liftT [2] (tOr (tNot (tB (c1 (gIsi .list) (cV 2)))) (tNot (tB (c3 gLe gLe (cK (.int 1)) (cA (g1 gLen) (aCons (cV 2) aNil)) (cK (.int 8))))))) (fun _ => .bad) sNext)
    (sSeq (sFor (liftI [2] (iEn (aCons (cV 2) aNil))) (sT 2 (sCons (sN 4) (sCons (sN 5) sNil))) (sDrop (lift [1, 4, 5] (cA (chk 3 m_look_at_switch) (aCons (cV 1) (aCons (cV 4) (aCons (cV 5) aNil)))))))
    (sDrop (lift [2, 3] (cA (chk 2 m_look_at_links) (aCons (cV 2) (aCons (cV 3) aNil))))))))))
def m_look_at_net : List D → Out D := runP 1 6 g_look_at_net

abbrev s_Reading_net : Stmt := inClass (top 36) 6
abbrev N_Reading_net : List Str := ["self"]
theorem sc_Reading_net : FnScope N_Reading_net ["self"] (defScope s_Reading_net) := ⟨rfl, rfl, rfl, by decide +kernel, rfl, by decide +kernel, by decide +kernel⟩
def g_Reading_net : FS :=
    (sRet (lift [0] (cTup (aCons (c1 (gFld "Reading" "own_width") (cV 0)) (aCons (c1 (gFld "Reading" "own_switches") (cV 0)) (aCons (c1 (gFld "Reading" "own_links") (cV 0)) aNil))))))
def m_Reading_net : List D → Out D := runP 1 1 g_Reading_net

abbrev s_read : Stmt := top 37
abbrev N_read : List Str := ["text", "reading", "row", "e"]
theorem sc_read : FnScope N_read ["text"] (defScope s_read) := ⟨rfl, rfl, rfl, by decide +kernel, rfl, by decide +kernel, by decide +kernel⟩
def g_read : FS :=
    (sSeq (sIf (liftT [0] (tNot (tB (c1 (gIsi .str) (cV 0))))) (fun _ => .bad) sNext)
    (sSeq (sSet 1 (lift [] (cA (mkO "Reading" 1 m_Reading___init__ []) aNil)))
    (sSeq (sFor (liftI [0] (iL (cFz (c2S gSplit (cV 0) (cK (.str [10])))))) (sN 2) (sDrop (xMIO 1 "Reading" "take" 2 m_Reading_take (liftA [2] (aCons (cV 2) aNil)))))
    (sSeq (sTryN (sDrop (lift [1] (cA (chk 1 m_look_at_net) (aCons (cFz (cMt "Reading" "net" 1 m_Reading_net [] (cV 1) aNil)) aNil)))))
    (sRet (xMIO 1 "Reading" "net" 1 m_Reading_netM xNil))))))
def m_read : List D → Out D := runP 1 4 g_read

abbrev s_shown_outs : Stmt := top 28
abbrev N_shown_outs : List Str := ["outs", "door", "by"]
theorem sc_shown_outs : FnScope N_shown_outs ["outs"] (defScope s_shown_outs) := ⟨rfl, rfl, rfl, by decide +kernel, rfl, by decide +kernel, by decide +kernel⟩
def g_shown_outs : FS :=
    (sRet (lift [0, 1, 2] (cOrS (c2S gJoin (cK (.str [32])) (cFz (cLc (iL (cV 0)) [1, 2] (sT 2 (sCons (sN 1) (sCons (sN 2) sNil))) tYes' (c2 gAddS (c2 gAddS (cA (g1 gStr) (aCons (cV 1) aNil)) (cK (.str [58]))) (cV 2))))) (cK (.str [45])))))
def m_shown_outs : List D → Out D := runP 1 3 g_shown_outs

abbrev s_shown_rule : Stmt := top 29
abbrev N_shown_rule : List Str := ["rule", "door", "pattern", "outs"]
theorem sc_shown_rule : FnScope N_shown_rule ["rule"] (defScope s_shown_rule) := ⟨rfl, rfl, rfl, by decide +kernel, rfl, by decide +kernel, by decide +kernel⟩
def g_shown_rule : FS :=
    (sSeq (sAsg (lift [0] (cV 0)) (sT 3 (sCons (sN 1) (sCons (sN 2) (sCons (sN 3) sNil)))))
    (sRet (lift [1, 2, 3] (c2S gJoin (cK (.str [32])) (cFz (cLst (aCons (c2 gIx (cFz (cLst (aCons (cK (.str [42])) (aCons (cA (g1 gStr2) (aCons (cV 1) aNil)) aNil)))) (cA (g1 gInt) (aCons (c2 (gIsN true) (cV 1) (cK .non)) aNil))) (aCons (cV 2) (aCons (cA (chk 1 m_shown_outs) (aCons (cV 3) aNil)) aNil)))))))))
def m_shown_rule : List D → Out D := runP 1 4 g_shown_rule

abbrev s_shown_place : Stmt := top 27
abbrev N_shown_place : List Str := ["place", "number"]
theorem sc_shown_place : FnScope N_shown_place ["place"] (defScope s_shown_place) := ⟨rfl, rfl, rfl, by decide +kernel, rfl, by decide +kernel, by decide +kernel⟩
def g_shown_place : FS :=
    (sRet (lift [0, 1] (c2S gJoin (cK (.str [46])) (cFz (cLc (iT (cV 0)) [1] (sN 1) tYes' (cA (g1 gStr2) (aCons (cV 1) aNil)))))))
def m_shown_place : List D → Out D := runP 1 2 g_shown_place

abbrev s_shown : Stmt := top 30
abbrev N_shown : List Str := ["net", "rows", "width", "switches", "links", "doors", "rules", "rule", "one", "other"]
theorem sc_shown : FnScope N_shown ["net"] (defScope s_shown) := ⟨rfl, rfl, rfl, by decide +kernel, rfl, by decide +kernel, by decide +kernel⟩
def g_shown : FS :=
    (sSeq (sAsg (lift [0] (cV 0)) (sT 3 (sCons (sN 2) (sCons (sN 3) (sCons (sN 4) sNil)))))
    (sSeq (sSet 1 (lift [2] (cLst (aCons (c2 gAddS (cK (.str [119, 105, 100, 116, 104, 32])) (cA (g1 gStr) (aCons (cV 2) aNil))) aNil))))
    (sSeq (sFor (liftI [3] (iL (cV 3))) (sT 2 (sCons (sN 5) (sCons (sN 6) sNil))) (sSeq (sDrop (sApp 1 (lift [5] (c2 gAddS (cK (.str [115, 119, 105, 116, 99, 104, 32])) (cA (g1 gStr) (aCons (cV 5) aNil))))))
    (sDrop (sExtP 1 (pVar 1) [6, 7] (cLc (iL (cV 6)) [7] (sN 7) tYes' (cA (chk 1 m_shown_rule) (aCons (cV 7) aNil)))))))
    (sSeq (sDrop (sExtP 1 (pVar 1) [4, 8, 9] (cLc (iL (cV 4)) [8, 9] (sT 2 (sCons (sN 8) (sCons (sN 9) sNil))) tYes' (c2 gAddS (c2 gAddS (c2 gAddS (cK (.str [108, 105, 110, 107, 32])) (cFz (cA (chk 1 m_shown_place) (aCons (cV 8) aNil)))) (cK (.str [32]))) (cFz (cA (chk 1 m_shown_place) (aCons (cV 9) aNil)))))))
    (sRet (lift [1] (c2S gJoin (cK (.str [10])) (cV 1))))))))
def m_shown : List D → Out D := runP 1 10 g_shown

abbrev s_law : Stmt := top 49
abbrev N_law : List Str := ["_law_script", "_law_k", "_law_pool_here", "_law_net_here", "_law_kept", "_law_text_here", "_law_turn", "_law_wide", "_law_found", "_law_far", "_law_doors", "_law_rules"]
theorem sc_law : FnScope N_law ["_law_script"] (defScope s_law) := ⟨rfl, rfl, rfl, by decide +kernel, rfl, by decide +kernel, by decide +kernel⟩
def g_law : FS :=
    (sSeq (sFor (iXR1 (liftA [0] (aCons (cA gMx (aCons (cK (.int 1)) (aCons (cA gMn (aCons (cA (g1 gLen) (aCons (cV 0) aNil)) (aCons (cK (.int 10)) aNil))) aNil))) aNil))) (sN 1) (sSeq (sSet 2 (lift [0, 1] (cA (chk 2 m__law_pool) (aCons (cV 0) (aCons (cV 1) aNil)))))
    (sSeq (sSet 3 (xIO 2 3 m__law_net (xCons (x2 gAddI (lift [] (cK (.int 1))) (xIO 2 2 m__law_take (liftA [] (aCons (cK (.int 16)) aNil)))) (xCons (lift [] (cK (.int 4))) xNil))))
    (sSeq (sSet 4 (lift [3] (cA (g1 gRepr) (aCons (cV 3) aNil))))
    (sSeq (sSet 5 (lift [3] (cA (chk 1 m__law_written) (aCons (cV 3) aNil))))
    (sSeq (sIf (liftT [3, 4, 5] (tOr (tB (c2 gNe (cFz (cA (chk 1 m_shown) (aCons (cV 3) aNil))) (cV 5))) (tB (c2 gNe (cA (g1 gRepr) (aCons (cV 3) aNil)) (cV 4))))) (sRet (lift [] (cK (.bl false)))) sNext)
    (sSeq (sFor (iXR1 (liftA [] (aCons (cK (.int 2)) aNil))) (sN 6) (sSeq (sSet 8 (lift [5] (cA (chk 1 m_read) (aCons (cV 5) aNil))))
    (sSeq (sIf (liftT [4, 8] (tB (c2 gNe (cA (g1 gRepr) (aCons (cV 8) aNil)) (cV 4)))) (sRet (lift [] (cK (.bl false)))) sNext)
    (sSeq (sDrop (sAppP 8 (pIx 8 [] (pVar 8) (cK (.int 2))) [] (cK .non)))
    (sSeq (sForM 8 (pIx 8 [] (pVar 8) (cK (.int 1))) (sT 2 (sCons (sN 10) (sCons (sN 11) sNil))) (sSeq (sIf (liftT [11] (tB (c2 gNe (cV 11) (cFz (cLst aNil))))) (sDrop (sAppP 11 (pIx 11 [] (pIx 11 [] (pVar 11) (cK (.int 0))) (cK (.int 2))) [] (cK .non))) sNext)
    (sDrop (sClrP 11 (pVar 11)))))
    (sDrop (sClrP 8 (pIx 8 [] (pVar 8) (cK (.int 1))))))))))
    (sFor (liftI [] (iL (cFz (cLst (aCons (cTup (aCons (cK (.int 6)) (aCons (cK (.str [49, 42, 48])) aNil))) (aCons (cTup (aCons (cK (.int 1)) (aCons (cK (.str [48])) aNil))) aNil)))))) (sN 7) (sSeq (sSet 9 (lift [7] (cTup (aCons (cA (g1 gLen) (aCons (c2 gIx (cV 7) (cK (.int 1))) aNil)) (aCons (c2 gMulL (cFz (cLst (aCons (cTup (aCons (c2 gIx (cV 7) (cK (.int 0))) (aCons (cLst (aCons (cTup (aCons (c2 gSubI (c2 gIx (cV 7) (cK (.int 0))) (cK (.int 1))) (aCons (c2 gIx (cV 7) (cK (.int 1))) (aCons (c2 gMulL (cFz (cLst (aCons (cTup (aCons (cK (.int 0)) (aCons (c2 gIx (cV 7) (cK (.int 1))) aNil))) aNil))) (cK (.int 3))) aNil)))) aNil)) aNil))) aNil))) (cK (.int 8))) (aCons (cLst aNil) aNil))))))
    (sIf (liftT [9] (tOr (tB (c2 gNe (cFz (cA (chk 1 m_read) (aCons (cFz (cA (chk 1 m_shown) (aCons (cV 9) aNil))) aNil))) (cV 9))) (tB (c2 gNe (cFz (cA (chk 1 m_shown) (aCons (cFz (cA (chk 1 m_read) (aCons (cFz (cA (chk 1 m__law_written) (aCons (cV 9) aNil))) aNil))) aNil))) (cFz (cA (chk 1 m__law_written) (aCons (cV 9) aNil))))))) (sRet (lift [] (cK (.bl false)))) sNext))))))))))
    (sRet (lift [] (cK (.bl true)))))
def m_law : List D → Out D := runP 1 12 g_law

section
variable [Tbs] {P : Program} {w : World} {K : PySem.W.Frag} {mg : Str → Option Value} {base : Heap} {cm : Cm}
set_option maxHeartbeats 4000000 in
theorem ok__law_cell_at (T : Txt w K mg cm)  {f : Addr} {fd : FuncData} (Fu : Fun K "_law_cell_at" "_law_cell_at" s__law_cell_at f fd) (hm : mg "_law_cell_at" = some (.ref f)) (hb : Binds K fd ["_law_script", "_law_k"] []) : CallOk P w K mg base "_law_cell_at" 1 ["_law_script", "_law_k"] (spP cm 2 m__law_cell_at) :=
  mk_pure (k := 0) Fu sc__law_cell_at hm hb fun cdv A outer s H E hr =>
      (ds_cons (ds_if (xt_lift [0, 1] (dt_lt (de_var (pv 1)) (de_len T.hk (by rfl) T.n_len (da_cons (de_var (pv 0)) da_nil)))) (ds_one (ds_ret (xe_lift [0, 1] (de_item T.hk (de_var (pv 0)) (de_var (pv 1)))))) ds_nil)
      (ds_one (ds_ret (xe_lift [] de_int))))

set_option maxHeartbeats 4000000 in
theorem ok__law_pool (T : Txt w K mg cm) (C__law_cell_at : CallOk P w K mg base "_law_cell_at" 1 ["_law_script", "_law_k"] (spP cm 2 m__law_cell_at)) {f : Addr} {fd : FuncData} (Fu : Fun K "_law_pool" "_law_pool" s__law_pool f fd) (hm : mg "_law_pool" = some (.ref f)) (hb : Binds K fd ["_law_script", "_law_k"] []) : CallOk P w K mg base "_law_pool" 2 ["_law_script", "_law_k"] (spP cm 2 m__law_pool) :=
  mk_pure (k := 1) Fu sc__law_pool hm hb fun cdv A outer s H E hr =>
      (ds_cons (ds_set 2 sc__law_pool.nd (xe_lift [0, 1] (de_fn C__law_cell_at (hr.mono (by decide)) pxB (da_cons (de_var (pv 0)) (da_cons (de_var (pv 1)) da_nil)))))
      (ds_cons (ds_set 3 sc__law_pool.nd (xe_lift [1, 2] (de_modI (de_mulI (de_addI (de_addI (de_modI (de_var (pv 2)) de_int) (de_mulI (de_mulI de_int (de_var (pv 1))) (de_var (pv 1)))) de_int) de_int) de_int)))
      (ds_cons (ds_if (xt_lift [2] (dt_lt (de_var (pv 2)) (de_powI de_int de_int))) (ds_one (ds_set 2 sc__law_pool.nd (xe_lift [] de_int))) ds_nil)
      (ds_one (ds_ret (xe_lift [2, 3] (de_lst (da_cons (de_var (pv 2)) (da_cons (de_modI (de_mulI (de_var (pv 3)) (de_var (pv 3))) de_int) da_nil)))))))))

set_option maxHeartbeats 4000000 in
theorem ok__law_take (T : Txt w K mg cm)  {f : Addr} {fd : FuncData} (Fu : Fun K "_law_take" "_law_take" s__law_take f fd) (hm : mg "_law_take" = some (.ref f)) (hb : Binds K fd ["_law_pool_here", "_law_many"] []) : CallOk P w K mg base "_law_take" 1 ["_law_pool_here", "_law_many"] (spX cm 2 m__law_take) :=
  mk_io (k := 0) Fu sc__law_take hm hb fun cdv A outer s H E hr =>
      (ds_cons (ds_if (xt_lift [0] (dt_gt (de_item T.hk (de_var (pv 0)) de_int) de_int)) (ds_cons (ds_set 2 sc__law_take.nd (xe_lift [0, 1] (de_modI (de_item T.hk (de_var (pv 0)) de_int) (de_var (pv 1)))))
      (ds_cons (ds_put 0 (pv 0) (xe_lift [0, 1] (de_fdvI (de_item T.hk (de_var (pv 0)) de_int) (de_var (pv 1)))) (xe_lift [] de_int) (fun _ _ h1 h2 => ps_asg h1 (pg_sub (pv 0) h2 set_list)))
      (ds_one (ds_ret (xe_lift [2] (de_var (pv 2))))))) ds_nil)
      (ds_cons (ds_put 0 (pv 0) (xe_lift [0] (de_modI (de_addI (de_mulI (de_item T.hk (de_var (pv 0)) de_int) de_int) de_int) de_int)) (xe_lift [] de_int) (fun _ _ h1 h2 => ps_asg h1 (pg_sub (pv 0) h2 set_list)))
      (ds_one (ds_ret (xe_lift [0, 1] (de_modI (de_fdvI (de_modI (de_mulI (de_item T.hk (de_var (pv 0)) de_int) (de_item T.hk (de_var (pv 0)) de_int)) de_int) de_int) (de_var (pv 1))))))))

set_option maxHeartbeats 4000000 in
theorem ok__law_text (T : Txt w K mg cm) (C__law_take : CallOk P w K mg base "_law_take" 1 ["_law_pool_here", "_law_many"] (spX cm 2 m__law_take)) {f : Addr} {fd : FuncData} (Fu : Fun K "_law_text" "_law_text" s__law_text f fd) (hm : mg "_law_text" = some (.ref f)) (hb : Binds K fd ["_law_pool_here", "_law_width", "_law_signs"] []) : CallOk P w K mg base "_law_text" 2 ["_law_pool_here", "_law_width", "_law_signs"] (spX cm 3 m__law_text) :=
  mk_io (k := 1) Fu sc__law_text hm hb fun cdv A outer s H E hr =>
      (ds_one (ds_ret (xe_join (xe_lift [] (de_str [])) (xe_lc rfl sc__law_text.nd (xi_range1 (by rfl) T.n_range (xa_lift [1] (da_cons (de_var (pv 1)) da_nil))) (blkOk_by (own := [("_law_turn", 3)]) (N := N__law_text) (sc := defScope s__law_text) (by decide +kernel)) rfl (fun _ _ _ _ _ => (xg_name 3 sc__law_text.nd)) (fun _ _ _ _ _ => xts_nil) (fun _ _ _ _ _ => (xe_ix ix_seq (o_ix T.hk) noEx_ix (fun _ _ => rfl) (xe_lift [2] (de_var (pv 2))) (xe_fio 0 C__law_take (hr.mono (by decide)) pass_none (pv 0) (xa_lift [2] (da_cons (de_len T.hk (by rfl) T.n_len (da_cons (de_var (pv 2)) da_nil)) da_nil)))))))))

set_option maxHeartbeats 4000000 in
theorem ok__law_pattern (T : Txt w K mg cm) (C__law_text : CallOk P w K mg base "_law_text" 2 ["_law_pool_here", "_law_width", "_law_signs"] (spX cm 3 m__law_text)) (C__law_take : CallOk P w K mg base "_law_take" 1 ["_law_pool_here", "_law_many"] (spX cm 2 m__law_take)) {f : Addr} {fd : FuncData} (Fu : Fun K "_law_pattern" "_law_pattern" s__law_pattern f fd) (hm : mg "_law_pattern" = some (.ref f)) (hb : Binds K fd ["_law_pool_here", "_law_width"] []) : CallOk P w K mg base "_law_pattern" 3 ["_law_pool_here", "_law_width"] (spX cm 2 m__law_pattern) :=
  mk_io (k := 2) Fu sc__law_pattern hm hb fun cdv A outer s H E hr =>
      (ds_cons (ds_set 2 sc__law_pattern.nd (xe_ix ix_seq (o_ix T.hk) noEx_ix (fun _ _ => rfl) (xe_lift [] (de_lst (da_cons (de_str [48, 49, 42]) (da_cons (de_str [42, 42, 42, 48, 49]) (da_cons (de_str [48, 42]) (da_cons (de_str [49, 42]) da_nil)))))) (xe_fio 0 C__law_take (hr.mono (by decide)) pxB (pv 0) (xa_lift [] (da_cons de_int da_nil)))))
      (ds_one (ds_ret (xe_fio 0 C__law_text (hr.mono (by decide)) pxB (pv 0) (xa_lift [1, 2] (da_cons (de_var (pv 1)) (da_cons (de_var (pv 2)) da_nil)))))))

set_option maxHeartbeats 4000000 in
theorem ok__law_rule (T : Txt w K mg cm) (C__law_take : CallOk P w K mg base "_law_take" 1 ["_law_pool_here", "_law_many"] (spX cm 2 m__law_take)) (C__law_pattern : CallOk P w K mg base "_law_pattern" 3 ["_law_pool_here", "_law_width"] (spX cm 2 m__law_pattern)) (C__law_text : CallOk P w K mg base "_law_text" 2 ["_law_pool_here", "_law_width", "_law_signs"] (spX cm 3 m__law_text)) {f : Addr} {fd : FuncData} (Fu : Fun K "_law_rule" "_law_rule" s__law_rule f fd) (hm : mg "_law_rule" = some (.ref f)) (hb : Binds K fd ["_law_pool_here", "_law_width", "_law_doors"] []) : CallOk P w K mg base "_law_rule" 4 ["_law_pool_here", "_law_width", "_law_doors"] (spX cm 3 m__law_rule) :=
  mk_io (k := 3) Fu sc__law_rule hm hb fun cdv A outer s H E hr =>
      (ds_cons (ds_set 3 sc__law_rule.nd (xe_ix ix_seq (o_ix T.hk) noEx_ix (fun _ _ => rfl) (xe_lst (xa_cons (xe_lift [] de_non) (xa_cons (xe_lift [] de_non) (xa_cons (xe_fio 0 C__law_take (hr.mono (by decide)) pxB (pv 0) (xa_lift [2] (da_cons (de_var (pv 2)) da_nil))) xa_nil)))) (xe_fio 0 C__law_take (hr.mono (by decide)) pxB (pv 0) (xa_lift [] (da_cons de_int da_nil)))))
      (ds_cons (ds_set 4 sc__law_rule.nd (xe_lift [] (de_lst da_nil)))
      (ds_cons (ds_for poB rfl (xi_range1 (by rfl) T.n_range (xa_cons (xe_ix ix_seq (o_ix T.hk) noEx_ix (fun _ _ => rfl) (xe_lift [] (de_lst (da_cons de_int (da_cons de_int (da_cons de_int (da_cons de_int (da_cons de_int (da_cons de_int (da_cons de_int da_nil))))))))) (xe_fio 0 C__law_take (hr.mono (by decide)) pxB (pv 0) (xa_lift [] (da_cons de_int da_nil)))) xa_nil)) (xg_name 5 sc__law_rule.nd) (ds_cons (ds_set 6 sc__law_rule.nd (xe_ix ix_seq (o_ix T.hk) noEx_ix (fun _ _ => rfl) (xe_lst (xa_cons (xe_lift [1] (de_mulS (de_str [42]) (de_var (pv 1)))) (xa_cons (xe_fio 0 C__law_text (hr.mono (by decide)) pxB (pv 0) (xa_lift [1] (da_cons (de_var (pv 1)) (da_cons (de_str [42, 42, 42, 48, 49]) da_nil)))) xa_nil))) (xe_fio 0 C__law_take (hr.mono (by decide)) pxB (pv 0) (xa_lift [] (da_cons de_int da_nil)))))
      (ds_one (ds_expr (xe_app 4 (pv 4) (xe_tup (xa_cons (xe_fio 0 C__law_take (hr.mono (by decide)) pxB (pv 0) (xa_lift [2] (da_cons (de_var (pv 2)) da_nil))) (xa_cons (xe_lift [6] (de_var (pv 6))) xa_nil))))))))
      (ds_one (ds_ret (xe_tup (xa_cons (xe_lift [3] (de_var (pv 3))) (xa_cons (xe_fio 0 C__law_pattern (hr.mono (by decide)) pxB (pv 0) (xa_lift [1] (da_cons (de_var (pv 1)) da_nil))) (xa_cons (xe_lift [4] (de_var (pv 4))) xa_nil)))))))))

set_option maxHeartbeats 4000000 in
theorem ok__law_net (T : Txt w K mg cm) (C__law_take : CallOk P w K mg base "_law_take" 1 ["_law_pool_here", "_law_many"] (spX cm 2 m__law_take)) (C__law_rule : CallOk P w K mg base "_law_rule" 4 ["_law_pool_here", "_law_width", "_law_doors"] (spX cm 3 m__law_rule)) {f : Addr} {fd : FuncData} (Fu : Fun K "_law_net" "_law_net" s__law_net f fd) (hm : mg "_law_net" = some (.ref f)) (hb : Binds K fd ["_law_pool_here", "_law_width", "_law_many"] []) : CallOk P w K mg base "_law_net" 5 ["_law_pool_here", "_law_width", "_law_many"] (spX cm 3 m__law_net) :=
  mk_io (k := 4) Fu sc__law_net hm hb fun cdv A outer s H E hr =>
      (ds_cons (ds_set 3 sc__law_net.nd (xe_lift [] (de_lst da_nil)))
      (ds_cons (ds_for poB rfl (xi_range1 (by rfl) T.n_range (xa_cons (xe_op op_add o_I0 noEx_I0 (xe_lift [] de_int) (xe_fio 0 C__law_take (hr.mono (by decide)) pxB (pv 0) (xa_lift [2] (da_cons (de_var (pv 2)) da_nil)))) xa_nil)) (xg_name 4 sc__law_net.nd) (ds_cons (ds_set 7 sc__law_net.nd (xe_op op_add o_I0 noEx_I0 (xe_lift [] de_int) (xe_fio 0 C__law_take (hr.mono (by decide)) pxB (pv 0) (xa_lift [] (da_cons de_int da_nil)))))
      (ds_cons (ds_setLc 8 rfl sc__law_net.nd (xi_range1 (by rfl) T.n_range (xa_cons (xe_fio 0 C__law_take (hr.mono (by decide)) pxB (pv 0) (xa_lift [] (da_cons de_int da_nil))) xa_nil)) (blkOk_by (own := [("_law_k", 12)]) (N := N__law_net) (sc := defScope s__law_net) (by decide +kernel)) rfl (fun _ _ _ _ _ => (xg_name 12 sc__law_net.nd)) (fun _ _ _ _ _ => xts_nil) (fun _ _ _ _ _ => (xe_fio 0 C__law_rule (hr.mono (by decide)) pass_none (pv 0) (xa_lift [1, 7] (da_cons (de_var (pv 1)) (da_cons (de_var (pv 7)) da_nil))))) (sw_true rfl rfl rfl (by decide +kernel)))
      (ds_cons (ds_if (xt_cmp op_gt o_B0 noEx_I0 (nomark _) (xe_fio 0 C__law_take (hr.mono (by decide)) pxB (pv 0) (xa_lift [] (da_cons de_int da_nil))) (xe_lift [] de_int)) (ds_one (ds_expr (xe_app 8 (pv 8) (xe_tup (xa_cons (xe_lift [] de_non) (xa_cons (xe_lift [1] (de_mulS (de_str [42]) (de_var (pv 1)))) (xa_cons (xe_lst (xa_cons (xe_tup (xa_cons (xe_fio 0 C__law_take (hr.mono (by decide)) pxB (pv 0) (xa_lift [7] (da_cons (de_var (pv 7)) da_nil))) (xa_cons (xe_lift [1] (de_mulS (de_str [42]) (de_var (pv 1)))) xa_nil))) xa_nil)) xa_nil))))))) ds_nil)
      (ds_one (ds_expr (xe_app 3 (pv 3) (xe_lift [7, 8] (de_tup (da_cons (de_var (pv 7)) (da_cons (de_var (pv 8)) da_nil)))))))))))
      (ds_cons (ds_set 5 sc__law_net.nd (xe_lift [] (de_lst da_nil)))
      (ds_cons (ds_for poB rfl (xi_lift [3] (di_enum T.hk (by rfl) T.n_enumerate (da_cons (de_var (pv 3)) da_nil))) (xg_tup rfl (xgs_cons (xg_name 9 sc__law_net.nd) (xgs_cons (xg_name 10 sc__law_net.nd) xgs_nil))) (ds_one (ds_set 5 sc__law_net.nd (xe_lift [5, 9, 10, 13] (de_cat (de_var (pv 5)) (de_fz (de_lc rfl sc__law_net.nd (di_range1 (by rfl) T.n_range (da_cons (de_item T.hk (de_var (pv 10)) de_int) da_nil)) (blkOk_by (own := [("_law_door", 13)]) (N := N__law_net) (sc := defScope s__law_net) (by decide +kernel)) rfl (fun _ _ _ _ _ => (dg_name 13 sc__law_net.nd)) (fun _ _ _ _ _ => dts_nil) (fun _ _ _ _ _ => (de_tup (da_cons (de_var (pv 9)) (da_cons (de_var (pv 13)) da_nil)))))))))))
      (ds_cons (ds_set 6 sc__law_net.nd (xe_lift [] (de_lst da_nil)))
      (ds_cons (ds_while 100000 poB (XW.xt (xw_and (xt_lift [5] (dt_gt (de_len T.hk (by rfl) T.n_len (da_cons (de_var (pv 5)) da_nil)) de_int)) (xw_and1 (xt_cmp op_gt o_B0 noEx_I0 (nomark _) (xe_fio 0 C__law_take (hr.mono (by decide)) pxB (pv 0) (xa_lift [] (da_cons de_int da_nil))) (xe_lift [] de_int))))) (ds_cons (ds_set 10 sc__law_net.nd (xe_popAt 5 (pv 5) (xe_fio 0 C__law_take (hr.mono (by decide)) pxB (pv 0) (xa_lift [5] (da_cons (de_len T.hk (by rfl) T.n_len (da_cons (de_var (pv 5)) da_nil)) da_nil)))))
      (ds_cons (ds_set 11 sc__law_net.nd (xe_popAt 5 (pv 5) (xe_fio 0 C__law_take (hr.mono (by decide)) pxB (pv 0) (xa_lift [5] (da_cons (de_len T.hk (by rfl) T.n_len (da_cons (de_var (pv 5)) da_nil)) da_nil)))))
      (ds_one (ds_expr (xe_app 6 (pv 6) (xe_lift [10, 11] (de_tup (da_cons (de_minD rfl hr.un70 (by rfl) T.n_min (da_cons (de_var (pv 10)) (da_cons (de_var (pv 11)) da_nil))) (da_cons (de_maxD rfl hr.un70 (by rfl) T.n_max (da_cons (de_var (pv 10)) (da_cons (de_var (pv 11)) da_nil))) da_nil))))))))))
      (ds_one (ds_ret (xe_lift [1, 3, 6] (de_tup (da_cons (de_var (pv 1)) (da_cons (de_var (pv 3)) (da_cons (de_var (pv 6)) da_nil)))))))))))))

set_option maxHeartbeats 4000000 in
theorem ok__law_rule_row (T : Txt w K mg cm)  {f : Addr} {fd : FuncData} (Fu : Fun K "_law_rule_row" "_law_rule_row" s__law_rule_row f fd) (hm : mg "_law_rule_row" = some (.ref f)) (hb : Binds K fd ["_law_rule_here"] []) : CallOk P w K mg base "_law_rule_row" 1 ["_law_rule_here"] (spP cm 1 m__law_rule_row) :=
  mk_pure (k := 0) Fu sc__law_rule_row hm hb fun cdv A outer s H E hr =>
      (ds_cons (ds_asg (xe_lift [0] (de_var (pv 0))) (xg_tup rfl (xgs_cons (xg_name 2 sc__law_rule_row.nd) (xgs_cons (xg_name 3 sc__law_rule_row.nd) (xgs_cons (xg_name 4 sc__law_rule_row.nd) xgs_nil)))))
      (ds_cons (ds_set 1 sc__law_rule_row.nd (xe_lift [2, 3] (de_lst (da_cons (de_item T.hk (de_fz (de_lst (da_cons (de_str [42]) (da_cons (de_str2 (by rfl) T.n_str (da_cons (de_var (pv 2)) da_nil)) da_nil)))) (de_intc (by rfl) T.n_int (da_cons (de_isn (de_var (pv 2)) de_non) da_nil))) (da_cons (de_var (pv 3)) da_nil)))))
      (ds_cons (ds_for poB rfl (xi_lift [4] (di_list (de_var (pv 4)))) (xg_tup rfl (xgs_cons (xg_name 5 sc__law_rule_row.nd) (xgs_cons (xg_name 6 sc__law_rule_row.nd) xgs_nil))) (ds_one (ds_expr (xe_app 1 (pv 1) (xe_lift [5, 6] (de_addS (de_addS (de_str1 (by rfl) T.n_str (da_cons (de_var (pv 5)) da_nil)) (de_str [58])) (de_var (pv 6))))))))
      (ds_one (ds_ret (xe_lift [1, 4] (de_join (de_str [32]) (de_fz (de_cat (de_var (pv 1)) (de_fz (de_mulL (de_fz (de_lst (da_cons (de_str [45]) da_nil))) (de_intc (by rfl) T.n_int (da_cons (de_eq hr.units (de_var (pv 4)) (de_fz (de_lst da_nil))) da_nil)))))))))))))

set_option maxHeartbeats 4000000 in
theorem ok__law_spot (T : Txt w K mg cm)  {f : Addr} {fd : FuncData} (Fu : Fun K "_law_spot" "_law_spot" s__law_spot f fd) (hm : mg "_law_spot" = some (.ref f)) (hb : Binds K fd ["_law_place"] []) : CallOk P w K mg base "_law_spot" 1 ["_law_place"] (spP cm 1 m__law_spot) :=
  mk_pure (k := 0) Fu sc__law_spot hm hb fun cdv A outer s H E hr =>
      (ds_one (ds_ret (xe_lift [0] (de_addS (de_addS (de_str1 (by rfl) T.n_str (da_cons (de_item T.hk (de_var (pv 0)) de_int) da_nil)) (de_str [46])) (de_str2 (by rfl) T.n_str (da_cons (de_item T.hk (de_var (pv 0)) de_int) da_nil))))))

set_option maxHeartbeats 4000000 in
theorem ok__law_written (T : Txt w K mg cm) (C__law_rule_row : CallOk P w K mg base "_law_rule_row" 1 ["_law_rule_here"] (spP cm 1 m__law_rule_row)) (C__law_spot : CallOk P w K mg base "_law_spot" 1 ["_law_place"] (spP cm 1 m__law_spot)) {f : Addr} {fd : FuncData} (Fu : Fun K "_law_written" "_law_written" s__law_written f fd) (hm : mg "_law_written" = some (.ref f)) (hb : Binds K fd ["_law_net_here"] []) : CallOk P w K mg base "_law_written" 2 ["_law_net_here"] (spP cm 1 m__law_written) :=
  mk_pure (k := 1) Fu sc__law_written hm hb fun cdv A outer s H E hr =>
      (ds_cons (ds_set 1 sc__law_written.nd (xe_lift [0] (de_lst (da_cons (de_addS (de_str [119, 105, 100, 116, 104, 32]) (de_str1 (by rfl) T.n_str (da_cons (de_item T.hk (de_var (pv 0)) de_int) da_nil))) da_nil))))
      (ds_cons (ds_for poB rfl (xi_lift [0] (di_list (de_item T.hk (de_var (pv 0)) de_int))) (xg_tup rfl (xgs_cons (xg_name 2 sc__law_written.nd) (xgs_cons (xg_name 3 sc__law_written.nd) xgs_nil))) (ds_cons (ds_expr (xe_app 1 (pv 1) (xe_lift [2] (de_addS (de_str [115, 119, 105, 116, 99, 104, 32]) (de_str1 (by rfl) T.n_str (da_cons (de_var (pv 2)) da_nil))))))
      (ds_one (ds_for poB rfl (xi_lift [3] (di_list (de_var (pv 3)))) (xg_name 4 sc__law_written.nd) (ds_one (ds_expr (xe_app 1 (pv 1) (xe_lift [4] (de_fn C__law_rule_row (hr.mono (by decide)) pxB (da_cons (de_var (pv 4)) da_nil))))))))))
      (ds_cons (ds_for poB rfl (xi_lift [0] (di_list (de_item T.hk (de_var (pv 0)) de_int))) (xg_tup rfl (xgs_cons (xg_name 5 sc__law_written.nd) (xgs_cons (xg_name 6 sc__law_written.nd) xgs_nil))) (ds_one (ds_expr (xe_app 1 (pv 1) (xe_lift [5, 6] (de_addS (de_addS (de_addS (de_str [108, 105, 110, 107, 32]) (de_fz (de_fn C__law_spot (hr.mono (by decide)) pxB (da_cons (de_var (pv 5)) da_nil)))) (de_str [32])) (de_fz (de_fn C__law_spot (hr.mono (by decide)) pxB (da_cons (de_var (pv 6)) da_nil)))))))))
      (ds_one (ds_ret (xe_lift [1] (de_join (de_str [10]) (de_var (pv 1)))))))))

set_option maxHeartbeats 4000000 in
theorem fn_Reading___init__ (T : Txt w K mg cm)  {f : Addr} {fd : FuncData} (Fu : FunE K "__init__" "Reading.__init__" s_Reading___init__ [] f fd) : FnG P w K mg base 1 f fd ["self"] (spX cm 1 m_Reading___init__) :=
  fn_ioE (k := 0) Fu sc_Reading___init__ fun cdv A outer s H E hr =>
      (ds_cons (ds_fld 0 (cl := "Reading") T.hk T.hC T.na_Reading_own_width (pv 0) (xe_lift [] de_non))
      (ds_cons (ds_fld 0 (cl := "Reading") T.hk T.hC T.na_Reading_own_switches (pv 0) (xe_lift [] (de_lst da_nil)))
      (ds_one (ds_fld 0 (cl := "Reading") T.hk T.hC T.na_Reading_own_links (pv 0) (xe_lift [] (de_lst da_nil))))))

set_option maxHeartbeats 4000000 in
theorem fn_Reading_netM (T : Txt w K mg cm)  {f : Addr} {fd : FuncData} (Fu : FunE K "net" "Reading.net" s_Reading_netM [] f fd) : FnG P w K mg base 1 f fd ["self"] (spX cm 1 m_Reading_netM) :=
  fn_ioE (k := 0) Fu sc_Reading_netM fun cdv A outer s H E hr =>
      (ds_one (ds_ret (xe_tup (xa_cons (xe_mvP 0 (xp_fld 0 (cl := "Reading") T.hk T.hC T.na_Reading_own_width (xp_var 0 (pv 0)))) (xa_cons (xe_mvP 0 (xp_fld 0 (cl := "Reading") T.hk T.hC T.na_Reading_own_switches (xp_var 0 (pv 0)))) (xa_cons (xe_mvP 0 (xp_fld 0 (cl := "Reading") T.hk T.hC T.na_Reading_own_links (xp_var 0 (pv 0)))) xa_nil))))))

set_option maxHeartbeats 4000000 in
theorem ok_number_of (T : Txt w K mg cm)  {f : Addr} {fd : FuncData} (Fu : Fun K "number_of" "number_of" s_number_of f fd) (hm : mg "number_of" = some (.ref f)) (hb : Binds K fd ["word"] []) : CallOk P w K mg base "number_of" 1 ["word"] (spP cm 1 m_number_of) :=
  mk_pure (k := 0) Fu sc_number_of hm hb fun cdv A outer s H E hr =>
      (ds_cons (ds_if (xt_lift [0, 1] (DW.dt (dw_or (dt_not (dt_lele de_int (de_len T.hk (by rfl) T.n_len (da_cons (de_var (pv 0)) da_nil)) (de_globI T.c_MOST_FIGURES))) (dw_or1 (dt_not (dt_B (de_all rfl (by rfl) T.n_all (da_cons (de_fz (de_lc rfl sc_number_of.nd (di_str (de_var (pv 0))) (blkOk_by (own := [("sign", 1)]) (N := N_number_of) (sc := defScope s_number_of) (by decide +kernel)) rfl (fun _ _ _ _ _ => (dg_name 1 sc_number_of.nd)) (fun _ _ _ _ _ => dts_nil) (fun _ _ _ _ _ => (de_in hr.units (de_var (pv 1)) (de_globS T.c_FIGURES))))) da_nil)))))))) (ds_one (ds_ret (xe_lift [] de_non))) ds_nil)
      (ds_cons (ds_if (xt_lift [0] (DW.dt (dw_and (dt_ne hr.units (de_var (pv 0)) (de_str [48])) (dw_and1 (dt_B (de_starts (de_var (pv 0)) (de_str [48]))))))) (ds_one (ds_ret (xe_lift [] de_non))) ds_nil)
      (ds_one (ds_ret (xe_lift [0] (de_intS (by rfl) T.n_int (da_cons (de_var (pv 0)) da_nil)))))))

set_option maxHeartbeats 4000000 in
theorem fn_Reading_take_width (T : Txt w K mg cm) (C_number_of : CallOk P w K mg base "number_of" 1 ["word"] (spP cm 1 m_number_of)) {f : Addr} {fd : FuncData} (Fu : FunE K "take_width" "Reading.take_width" s_Reading_take_width [] f fd) : FnG P w K mg base 2 f fd ["self", "words"] (spX cm 2 m_Reading_take_width) :=
  fn_ioE (k := 1) Fu sc_Reading_take_width fun cdv A outer s H E hr =>
      (ds_cons (ds_if (xt_lift [1] (DW.dt (dw_or (dt_ne hr.units (de_len T.hk (by rfl) T.n_len (da_cons (de_var (pv 1)) da_nil)) de_int) (dw_or (dt_ne hr.units (de_item T.hk (de_var (pv 1)) de_int) (de_str [119, 105, 100, 116, 104])) (dw_or1 (dt_is (de_fz (de_fn C_number_of (hr.mono (by decide)) pxB (da_cons (de_item T.hk (de_var (pv 1)) de_int) da_nil))) de_non)))))) (ds_one ds_never) ds_nil)
      (ds_one (ds_fld 0 (cl := "Reading") T.hk T.hC T.na_Reading_own_width (pv 0) (xe_lift [1] (de_fn C_number_of (hr.mono (by decide)) pxB (da_cons (de_item T.hk (de_var (pv 1)) de_int) da_nil))))))

set_option maxHeartbeats 4000000 in
theorem fn_Reading_take_switch (T : Txt w K mg cm) (C_number_of : CallOk P w K mg base "number_of" 1 ["word"] (spP cm 1 m_number_of)) {f : Addr} {fd : FuncData} (Fu : FunE K "take_switch" "Reading.take_switch" s_Reading_take_switch [] f fd) : FnG P w K mg base 2 f fd ["self", "words"] (spX cm 2 m_Reading_take_switch) :=
  fn_ioE (k := 1) Fu sc_Reading_take_switch fun cdv A outer s H E hr =>
      (ds_cons (ds_if (xt_lift [0, 1] (DW.dt (dw_or (dt_ne hr.units (de_len T.hk (by rfl) T.n_len (da_cons (de_var (pv 1)) da_nil)) de_int) (dw_or (dt_is (de_fz (de_fn C_number_of (hr.mono (by decide)) pxB (da_cons (de_item T.hk (de_var (pv 1)) de_int) da_nil))) de_non) (dw_or1 (dt_ne hr.units (de_fld (cl := "Reading") T.hk T.hC T.na_Reading_own_links (de_var (pv 0))) (de_fz (de_lst da_nil)))))))) (ds_one ds_never) ds_nil)
      (ds_one (ds_expr (xe_appP 0 [1] (xp_fld 0 (cl := "Reading") T.hk T.hC T.na_Reading_own_switches (xp_var 0 (pv 0))) (de_tup (da_cons (de_fn C_number_of (hr.mono (by decide)) pass_none (da_cons (de_item T.hk (de_var (pv 1)) de_int) da_nil)) (da_cons (de_lst da_nil) da_nil)))))))

set_option maxHeartbeats 4000000 in
theorem ok_place_of (T : Txt w K mg cm) (C_number_of : CallOk P w K mg base "number_of" 1 ["word"] (spP cm 1 m_number_of)) {f : Addr} {fd : FuncData} (Fu : Fun K "place_of" "place_of" s_place_of f fd) (hm : mg "place_of" = some (.ref f)) (hb : Binds K fd ["word"] []) : CallOk P w K mg base "place_of" 2 ["word"] (spP cm 1 m_place_of) :=
  mk_pure (k := 1) Fu sc_place_of hm hb fun cdv A outer s H E hr =>
      (ds_cons (ds_setLcP 1 [0, 2] rfl sc_place_of.nd (di_list (de_fz (de_split (de_var (pv 0)) (de_str [46])))) (blkOk_by (own := [("part", 2)]) (N := N_place_of) (sc := defScope s_place_of) (by decide +kernel)) rfl (fun _ _ _ _ _ => (dg_name 2 sc_place_of.nd)) (fun _ _ _ _ _ => dts_nil) (fun _ _ _ _ _ => (de_fn C_number_of (hr.mono (by decide)) pass_none (da_cons (de_var (pv 2)) da_nil))) (sw_true rfl rfl rfl (by decide +kernel)))
      (ds_cons (ds_if (xt_lift [1] (DW.dt (dw_or (dt_ne hr.units (de_len T.hk (by rfl) T.n_len (da_cons (de_var (pv 1)) da_nil)) de_int) (dw_or1 (dt_in hr.units de_non (de_var (pv 1))))))) (ds_one (ds_ret (xe_lift [] de_non))) ds_nil)
      (ds_one (ds_ret (xe_lift [1] (de_tupOf (by rfl) T.n_tuple (de_var (pv 1))))))))

set_option maxHeartbeats 4000000 in
theorem fn_Reading_take_link (T : Txt w K mg cm) (C_place_of : CallOk P w K mg base "place_of" 2 ["word"] (spP cm 1 m_place_of)) {f : Addr} {fd : FuncData} (Fu : FunE K "take_link" "Reading.take_link" s_Reading_take_link [] f fd) : FnG P w K mg base 3 f fd ["self", "words"] (spX cm 2 m_Reading_take_link) :=
  fn_ioE (k := 2) Fu sc_Reading_take_link fun cdv A outer s H E hr =>
      (ds_cons (ds_setLcP 2 [1, 3] rfl sc_Reading_take_link.nd (di_list (de_fz (de_sl (de_var (pv 1)) (do_some de_int) do_none))) (blkOk_by (own := [("word", 3)]) (N := N_Reading_take_link) (sc := defScope s_Reading_take_link) (by decide +kernel)) rfl (fun _ _ _ _ _ => (dg_name 3 sc_Reading_take_link.nd)) (fun _ _ _ _ _ => dts_nil) (fun _ _ _ _ _ => (de_fn C_place_of (hr.mono (by decide)) pass_none (da_cons (de_var (pv 3)) da_nil))) (sw_true rfl rfl rfl (by decide +kernel)))
      (ds_cons (ds_if (xt_lift [2] (DW.dt (dw_or (dt_ne hr.units (de_len T.hk (by rfl) T.n_len (da_cons (de_var (pv 2)) da_nil)) de_int) (dw_or1 (dt_in hr.units de_non (de_var (pv 2))))))) (ds_one ds_never) ds_nil)
      (ds_one (ds_expr (xe_appP 0 [2] (xp_fld 0 (cl := "Reading") T.hk T.hC T.na_Reading_own_links (xp_var 0 (pv 0))) (de_tupOf (by rfl) T.n_tuple (de_var (pv 2))))))))

set_option maxHeartbeats 4000000 in
theorem ok_is_signs (T : Txt w K mg cm)  {f : Addr} {fd : FuncData} (Fu : Fun K "is_signs" "is_signs" s_is_signs f fd) (hm : mg "is_signs" = some (.ref f)) (hb : Binds K fd ["word"] []) : CallOk P w K mg base "is_signs" 1 ["word"] (spP cm 1 m_is_signs) :=
  mk_pure (k := 0) Fu sc_is_signs hm hb fun cdv A outer s H E hr =>
      (ds_one (ds_ret (xe_lift [0, 1] (de_and (de_ne hr.units (de_var (pv 0)) (de_str [])) (de_one (de_all rfl (by rfl) T.n_all (da_cons (de_fz (de_lc rfl sc_is_signs.nd (di_str (de_var (pv 0))) (blkOk_by (own := [("sign", 1)]) (N := N_is_signs) (sc := defScope s_is_signs) (by decide +kernel)) rfl (fun _ _ _ _ _ => (dg_name 1 sc_is_signs.nd)) (fun _ _ _ _ _ => dts_nil) (fun _ _ _ _ _ => (de_in hr.units (de_var (pv 1)) (de_globS T.c_SIGNS))))) da_nil)))))))

set_option maxHeartbeats 4000000 in
theorem ok_out_of (T : Txt w K mg cm) (C_number_of : CallOk P w K mg base "number_of" 1 ["word"] (spP cm 1 m_number_of)) (C_is_signs : CallOk P w K mg base "is_signs" 1 ["word"] (spP cm 1 m_is_signs)) {f : Addr} {fd : FuncData} (Fu : Fun K "out_of" "out_of" s_out_of f fd) (hm : mg "out_of" = some (.ref f)) (hb : Binds K fd ["word"] []) : CallOk P w K mg base "out_of" 2 ["word"] (spP cm 1 m_out_of) :=
  mk_pure (k := 1) Fu sc_out_of hm hb fun cdv A outer s H E hr =>
      (ds_cons (ds_asg (xe_lift [0] (de_part (de_var (pv 0)) (de_str [58]))) (xg_tup rfl (xgs_cons (xg_name 1 sc_out_of.nd) (xgs_cons (xg_name 2 sc_out_of.nd) (xgs_cons (xg_name 3 sc_out_of.nd) xgs_nil)))))
      (ds_cons (ds_if (xt_lift [1, 3] (DW.dt (dw_or (dt_is (de_fz (de_fn C_number_of (hr.mono (by decide)) pxB (da_cons (de_var (pv 1)) da_nil))) de_non) (dw_or1 (dt_not (dt_B (de_fz (de_fn C_is_signs (hr.mono (by decide)) pxB (da_cons (de_var (pv 3)) da_nil))))))))) (ds_one (ds_ret (xe_lift [] de_non))) ds_nil)
      (ds_one (ds_ret (xe_lift [1, 3] (de_tup (da_cons (de_fn C_number_of (hr.mono (by decide)) pxB (da_cons (de_var (pv 1)) da_nil)) (da_cons (de_var (pv 3)) da_nil))))))))

set_option maxHeartbeats 4000000 in
theorem ok_rule_of (T : Txt w K mg cm) (C_is_signs : CallOk P w K mg base "is_signs" 1 ["word"] (spP cm 1 m_is_signs)) (C_out_of : CallOk P w K mg base "out_of" 2 ["word"] (spP cm 1 m_out_of)) (C_number_of : CallOk P w K mg base "number_of" 1 ["word"] (spP cm 1 m_number_of)) {f : Addr} {fd : FuncData} (Fu : Fun K "rule_of" "rule_of" s_rule_of f fd) (hm : mg "rule_of" = some (.ref f)) (hb : Binds K fd ["words"] []) : CallOk P w K mg base "rule_of" 3 ["words"] (spP cm 1 m_rule_of) :=
  mk_pure (k := 2) Fu sc_rule_of hm hb fun cdv A outer s H E hr =>
      (ds_cons (ds_if (xt_lift [0] (DW.dt (dw_or (dt_lt (de_len T.hk (by rfl) T.n_len (da_cons (de_var (pv 0)) da_nil)) de_int) (dw_or (dt_not (dt_B (de_fz (de_fn C_is_signs (hr.mono (by decide)) pxB (da_cons (de_item T.hk (de_var (pv 0)) de_int) da_nil))))) (dw_or1 (DW.dt (dw_and (dt_ne hr.units (de_item T.hk (de_var (pv 0)) de_int) (de_str [42])) (dw_and1 (dt_is (de_fz (de_fn C_number_of (hr.mono (by decide)) pxB (da_cons (de_item T.hk (de_var (pv 0)) de_int) da_nil))) de_non))))))))) (ds_one (ds_ret (xe_lift [] de_non))) ds_nil)
      (ds_cons (ds_set 1 sc_rule_of.nd (xe_lift [] (de_lst da_nil)))
      (ds_cons (ds_if (xt_lift [0] (dt_ne hr.units (de_fz (de_sl (de_var (pv 0)) (do_some de_int) do_none)) (de_fz (de_lst (da_cons (de_str [45]) da_nil))))) (ds_one (ds_setLcP 1 [0, 2] rfl sc_rule_of.nd (di_list (de_fz (de_sl (de_var (pv 0)) (do_some de_int) do_none))) (blkOk_by (own := [("word", 2)]) (N := N_rule_of) (sc := defScope s_rule_of) (by decide +kernel)) rfl (fun _ _ _ _ _ => (dg_name 2 sc_rule_of.nd)) (fun _ _ _ _ _ => dts_nil) (fun _ _ _ _ _ => (de_fn C_out_of (hr.mono (by decide)) pass_none (da_cons (de_var (pv 2)) da_nil))) (sw_true rfl rfl rfl (by decide +kernel)))) ds_nil)
      (ds_cons (ds_if (xt_lift [1] (dt_in hr.units de_non (de_var (pv 1)))) (ds_one (ds_ret (xe_lift [] de_non))) ds_nil)
      (ds_one (ds_ret (xe_tup (xa_cons (xe_lift [0] (de_item T.hk (de_fz (de_lst (da_cons (de_fn C_number_of (hr.mono (by decide)) pxB (da_cons (de_item T.hk (de_var (pv 0)) de_int) da_nil)) (da_cons de_non da_nil)))) (de_intc (by rfl) T.n_int (da_cons (de_eq hr.units (de_item T.hk (de_var (pv 0)) de_int) (de_str [42])) da_nil)))) (xa_cons (xe_lift [0] (de_item T.hk (de_var (pv 0)) de_int)) (xa_cons (xe_mv 1 (pv 1)) xa_nil))))))))))

set_option maxHeartbeats 4000000 in
theorem fn_Reading_take_rule (T : Txt w K mg cm) (C_rule_of : CallOk P w K mg base "rule_of" 3 ["words"] (spP cm 1 m_rule_of)) {f : Addr} {fd : FuncData} (Fu : FunE K "take_rule" "Reading.take_rule" s_Reading_take_rule [] f fd) : FnG P w K mg base 4 f fd ["self", "words"] (spX cm 2 m_Reading_take_rule) :=
  fn_ioE (k := 3) Fu sc_Reading_take_rule fun cdv A outer s H E hr =>
      (ds_cons (ds_set 2 sc_Reading_take_rule.nd (xe_lift [1] (de_fn C_rule_of (hr.mono (by decide)) pxB (da_cons (de_var (pv 1)) da_nil))))
      (ds_cons (ds_if (xt_lift [0, 2] (DW.dt (dw_or (dt_is (de_var (pv 2)) de_non) (dw_or (dt_eq hr.units (de_fld (cl := "Reading") T.hk T.hC T.na_Reading_own_switches (de_var (pv 0))) (de_fz (de_lst da_nil))) (dw_or1 (dt_ne hr.units (de_fld (cl := "Reading") T.hk T.hC T.na_Reading_own_links (de_var (pv 0))) (de_fz (de_lst da_nil)))))))) (ds_one ds_never) ds_nil)
      (ds_one (ds_expr (xe_appPM 0 2 (xp_ix 0 [] (xp_ix 0 [] (xp_fld 0 (cl := "Reading") T.hk T.hC T.na_Reading_own_switches (xp_var 0 (pv 0))) (de_neg de_int)) de_int) (pv 2))))))

set_option maxHeartbeats 4000000 in
theorem fn_Reading_take (T : Txt w K mg cm) (C_Reading_take_width : MethOk P w K mg base cm "Reading" "take_width" 2 ["self", "words"] [] (spX cm 2 m_Reading_take_width)) (C_Reading_take_switch : MethOk P w K mg base cm "Reading" "take_switch" 2 ["self", "words"] [] (spX cm 2 m_Reading_take_switch)) (C_Reading_take_link : MethOk P w K mg base cm "Reading" "take_link" 3 ["self", "words"] [] (spX cm 2 m_Reading_take_link)) (C_Reading_take_rule : MethOk P w K mg base cm "Reading" "take_rule" 4 ["self", "words"] [] (spX cm 2 m_Reading_take_rule)) {f : Addr} {fd : FuncData} (Fu : FunE K "take" "Reading.take" s_Reading_take [] f fd) : FnG P w K mg base 8 f fd ["self", "row"] (spX cm 2 m_Reading_take) :=
  fn_ioE (k := 7) Fu sc_Reading_take fun cdv A outer s H E hr =>
      (ds_cons (ds_set 2 sc_Reading_take.nd (xe_lift [1] (de_split (de_var (pv 1)) (de_str [32]))))
      (ds_one (ds_if (xt_lift [0] (dt_is (de_fld (cl := "Reading") T.hk T.hC T.na_Reading_own_width (de_var (pv 0))) de_non)) (ds_one (ds_expr (xe_mio 0 T.hk T.hC T.ok_Reading C_Reading_take_width (hr.mono (by decide)) pxB (pv 0) (xa_lift [2] (da_cons (de_var (pv 2)) da_nil))))) (ds_one (ds_if (xt_lift [2] (dt_eq hr.units (de_item T.hk (de_var (pv 2)) de_int) (de_str [115, 119, 105, 116, 99, 104]))) (ds_one (ds_expr (xe_mio 0 T.hk T.hC T.ok_Reading C_Reading_take_switch (hr.mono (by decide)) pxB (pv 0) (xa_lift [2] (da_cons (de_var (pv 2)) da_nil))))) (ds_one (ds_if (xt_lift [2] (dt_eq hr.units (de_item T.hk (de_var (pv 2)) de_int) (de_str [108, 105, 110, 107]))) (ds_one (ds_expr (xe_mio 0 T.hk T.hC T.ok_Reading C_Reading_take_link (hr.mono (by decide)) pxB (pv 0) (xa_lift [2] (da_cons (de_var (pv 2)) da_nil))))) (ds_one (ds_expr (xe_mio 0 T.hk T.hC T.ok_Reading C_Reading_take_rule (hr.mono (by decide)) pxB (pv 0) (xa_lift [2] (da_cons (de_var (pv 2)) da_nil))))))))))))

set_option maxHeartbeats 4000000 in
theorem ok_is_whole (T : Txt w K mg cm)  {f : Addr} {fd : FuncData} (Fu : Fun K "is_whole" "is_whole" s_is_whole f fd) (hm : mg "is_whole" = some (.ref f)) (hb : Binds K fd ["thing"] []) : CallOk P w K mg base "is_whole" 1 ["thing"] (spP cm 1 m_is_whole) :=
  mk_pure (k := 0) Fu sc_is_whole hm hb fun cdv A outer s H E hr =>
      (ds_one (ds_ret (xe_lift [0] (de_and (de_isi .int T.hk T.hC (by rfl) T.n_isinstance (by rfl) T.n_int (de_var (pv 0))) (de_one (de_not (de_isi .bool T.hk T.hC (by rfl) T.n_isinstance (by rfl) T.n_bool (de_var (pv 0)))))))))

set_option maxHeartbeats 4000000 in
theorem ok_is_below (T : Txt w K mg cm) (C_is_whole : CallOk P w K mg base "is_whole" 1 ["thing"] (spP cm 1 m_is_whole)) {f : Addr} {fd : FuncData} (Fu : Fun K "is_below" "is_below" s_is_below f fd) (hm : mg "is_below" = some (.ref f)) (hb : Binds K fd ["thing", "many"] []) : CallOk P w K mg base "is_below" 2 ["thing", "many"] (spP cm 2 m_is_below) :=
  mk_pure (k := 1) Fu sc_is_below hm hb fun cdv A outer s H E hr =>
      (ds_one (ds_ret (xe_lift [0, 1] (de_and (de_fz (de_fn C_is_whole (hr.mono (by decide)) pxB (da_cons (de_var (pv 0)) da_nil))) (de_one (de_lelt de_int (de_var (pv 0)) (de_var (pv 1))))))))

set_option maxHeartbeats 4000000 in
theorem ok_is_place (T : Txt w K mg cm) (C_is_below : CallOk P w K mg base "is_below" 2 ["thing", "many"] (spP cm 2 m_is_below)) {f : Addr} {fd : FuncData} (Fu : Fun K "is_place" "is_place" s_is_place f fd) (hm : mg "is_place" = some (.ref f)) (hb : Binds K fd ["switches", "thing"] []) : CallOk P w K mg base "is_place" 3 ["switches", "thing"] (spP cm 2 m_is_place) :=
  mk_pure (k := 2) Fu sc_is_place hm hb fun cdv A outer s H E hr =>
      (ds_cons (ds_if (xt_lift [0, 1] (DW.dt (dw_or (dt_not (dt_B (de_isi .tuple T.hk T.hC (by rfl) T.n_isinstance (by rfl) T.n_tuple (de_var (pv 1))))) (dw_or (dt_ne hr.units (de_len T.hk (by rfl) T.n_len (da_cons (de_var (pv 1)) da_nil)) de_int) (dw_or1 (dt_not (dt_B (de_fz (de_fn C_is_below (hr.mono (by decide)) pxB (da_cons (de_item T.hk (de_var (pv 1)) de_int) (da_cons (de_len T.hk (by rfl) T.n_len (da_cons (de_var (pv 0)) da_nil)) da_nil))))))))))) (ds_one (ds_ret (xe_lift [] de_bl))) ds_nil)
      (ds_one (ds_ret (xe_lift [0, 1] (de_fn C_is_below (hr.mono (by decide)) pxB (da_cons (de_item T.hk (de_var (pv 1)) de_int) (da_cons (de_item T.hk (de_item T.hk (de_var (pv 0)) (de_item T.hk (de_var (pv 1)) de_int)) de_int) da_nil)))))))

set_option maxHeartbeats 4000000 in
theorem ok_look_at_links (T : Txt w K mg cm) (C_is_place : CallOk P w K mg base "is_place" 3 ["switches", "thing"] (spP cm 2 m_is_place)) {f : Addr} {fd : FuncData} (Fu : Fun K "look_at_links" "look_at_links" s_look_at_links f fd) (hm : mg "look_at_links" = some (.ref f)) (hb : Binds K fd ["switches", "links"] []) : CallOk P w K mg base "look_at_links" 4 ["switches", "links"] (spP cm 2 m_look_at_links) :=
  mk_pure (k := 3) Fu sc_look_at_links hm hb fun cdv A outer s H E hr =>
      (ds_cons (ds_if (xt_lift [1] (DW.dt (dw_or (dt_not (dt_B (de_isi .list T.hk T.hC (by rfl) T.n_isinstance (by rfl) T.n_list (de_var (pv 1))))) (dw_or1 (dt_gt (de_len T.hk (by rfl) T.n_len (da_cons (de_var (pv 1)) da_nil)) (de_globI T.c_MOST_LINKS)))))) (ds_one ds_never) ds_nil)
      (ds_cons (ds_set 2 sc_look_at_links.nd (xe_lift [] (de_lst da_nil)))
      (ds_one (ds_for poB rfl (xi_lift [1] (di_enum T.hk (by rfl) T.n_enumerate (da_cons (de_var (pv 1)) da_nil))) (xg_tup rfl (xgs_cons (xg_name 3 sc_look_at_links.nd) (xgs_cons (xg_name 4 sc_look_at_links.nd) xgs_nil))) (ds_cons (ds_if (xt_lift [0, 4, 5] (DW.dt (dw_or (dt_not (dt_B (de_isi .tuple T.hk T.hC (by rfl) T.n_isinstance (by rfl) T.n_tuple (de_var (pv 4))))) (dw_or (dt_ne hr.units (de_len T.hk (by rfl) T.n_len (da_cons (de_var (pv 4)) da_nil)) de_int) (dw_or1 (dt_not (dt_B (de_all rfl (by rfl) T.n_all (da_cons (de_fz (de_lc rfl sc_look_at_links.nd (di_tup (de_var (pv 4))) (blkOk_by (own := [("one", 5)]) (N := N_look_at_links) (sc := defScope s_look_at_links) (by decide +kernel)) rfl (fun _ _ _ _ _ => (dg_name 5 sc_look_at_links.nd)) (fun _ _ _ _ _ => dts_nil) (fun _ _ _ _ _ => (de_fn C_is_place (hr.mono (by decide)) pass_none (da_cons (de_var (pv 0)) (da_cons (de_var (pv 5)) da_nil)))))) da_nil))))))))) (ds_one ds_never) ds_nil)
      (ds_cons (ds_if (xt_lift [2, 4] (DW.dt (dw_or (dt_geD hr.units (de_item T.hk (de_var (pv 4)) de_int) (de_item T.hk (de_var (pv 4)) de_int)) (dw_or (dt_in hr.units (de_item T.hk (de_var (pv 4)) de_int) (de_var (pv 2))) (dw_or1 (dt_in hr.units (de_item T.hk (de_var (pv 4)) de_int) (de_var (pv 2)))))))) (ds_one ds_never) ds_nil)
      (ds_one (ds_expr (xe_extT 2 [4] (xp_var 2 (pv 2)) (de_var (pv 4)))))))))))

set_option maxHeartbeats 4000000 in
theorem ok_is_width (T : Txt w K mg cm) (C_is_whole : CallOk P w K mg base "is_whole" 1 ["thing"] (spP cm 1 m_is_whole)) {f : Addr} {fd : FuncData} (Fu : Fun K "is_width" "is_width" s_is_width f fd) (hm : mg "is_width" = some (.ref f)) (hb : Binds K fd ["thing"] []) : CallOk P w K mg base "is_width" 2 ["thing"] (spP cm 1 m_is_width) :=
  mk_pure (k := 1) Fu sc_is_width hm hb fun cdv A outer s H E hr =>
      (ds_one (ds_ret (xe_lift [0] (de_and (de_fz (de_fn C_is_whole (hr.mono (by decide)) pxB (da_cons (de_var (pv 0)) da_nil))) (de_one (de_lele de_int (de_var (pv 0)) (de_globI T.c_MOST_WIDTH)))))))

set_option maxHeartbeats 4000000 in
theorem ok_is_of (T : Txt w K mg cm)  {f : Addr} {fd : FuncData} (Fu : Fun K "is_of" "is_of" s_is_of f fd) (hm : mg "is_of" = some (.ref f)) (hb : Binds K fd ["thing", "width", "signs"] []) : CallOk P w K mg base "is_of" 1 ["thing", "width", "signs"] (spP cm 3 m_is_of) :=
  mk_pure (k := 0) Fu sc_is_of hm hb fun cdv A outer s H E hr =>
      (ds_one (ds_ret (xe_lift [0, 1, 2, 3] (de_and (de_isi .str T.hk T.hC (by rfl) T.n_isinstance (by rfl) T.n_str (de_var (pv 0))) (de_and (de_eq hr.units (de_len T.hk (by rfl) T.n_len (da_cons (de_var (pv 0)) da_nil)) (de_var (pv 1))) (de_one (de_all rfl (by rfl) T.n_all (da_cons (de_fz (de_lc rfl sc_is_of.nd (di_str (de_var (pv 0))) (blkOk_by (own := [("sign", 3)]) (N := N_is_of) (sc := defScope s_is_of) (by decide +kernel)) rfl (fun _ _ _ _ _ => (dg_name 3 sc_is_of.nd)) (fun _ _ _ _ _ => dts_nil) (fun _ _ _ _ _ => (de_in hr.units (de_var (pv 3)) (de_var (pv 2)))))) da_nil))))))))

set_option maxHeartbeats 4000000 in
theorem ok_is_pattern (T : Txt w K mg cm) (C_is_of : CallOk P w K mg base "is_of" 1 ["thing", "width", "signs"] (spP cm 3 m_is_of)) {f : Addr} {fd : FuncData} (Fu : Fun K "is_pattern" "is_pattern" s_is_pattern f fd) (hm : mg "is_pattern" = some (.ref f)) (hb : Binds K fd ["thing", "width"] []) : CallOk P w K mg base "is_pattern" 2 ["thing", "width"] (spP cm 2 m_is_pattern) :=
  mk_pure (k := 1) Fu sc_is_pattern hm hb fun cdv A outer s H E hr =>
      (ds_one (ds_ret (xe_lift [0, 1] (de_fn C_is_of (hr.mono (by decide)) pxB (da_cons (de_var (pv 0)) (da_cons (de_var (pv 1)) (da_cons (de_str [48, 49, 42]) da_nil)))))))

set_option maxHeartbeats 4000000 in
theorem ok_is_out (T : Txt w K mg cm) (C_is_below : CallOk P w K mg base "is_below" 2 ["thing", "many"] (spP cm 2 m_is_below)) (C_is_pattern : CallOk P w K mg base "is_pattern" 2 ["thing", "width"] (spP cm 2 m_is_pattern)) {f : Addr} {fd : FuncData} (Fu : Fun K "is_out" "is_out" s_is_out f fd) (hm : mg "is_out" = some (.ref f)) (hb : Binds K fd ["width", "doors", "thing"] []) : CallOk P w K mg base "is_out" 3 ["width", "doors", "thing"] (spP cm 3 m_is_out) :=
  mk_pure (k := 2) Fu sc_is_out hm hb fun cdv A outer s H E hr =>
      (ds_cons (ds_if (xt_lift [2] (DW.dt (dw_or (dt_not (dt_B (de_isi .tuple T.hk T.hC (by rfl) T.n_isinstance (by rfl) T.n_tuple (de_var (pv 2))))) (dw_or1 (dt_ne hr.units (de_len T.hk (by rfl) T.n_len (da_cons (de_var (pv 2)) da_nil)) de_int))))) (ds_one (ds_ret (xe_lift [] de_bl))) ds_nil)
      (ds_one (ds_ret (xe_lift [0, 1, 2] (de_and (de_fz (de_fn C_is_below (hr.mono (by decide)) pxB (da_cons (de_item T.hk (de_var (pv 2)) de_int) (da_cons (de_var (pv 1)) da_nil)))) (de_one (de_fn C_is_pattern (hr.mono (by decide)) pxB (da_cons (de_item T.hk (de_var (pv 2)) de_int) (da_cons (de_var (pv 0)) da_nil)))))))))

set_option maxHeartbeats 4000000 in
theorem ok_is_rule (T : Txt w K mg cm) (C_is_pattern : CallOk P w K mg base "is_pattern" 2 ["thing", "width"] (spP cm 2 m_is_pattern)) (C_is_out : CallOk P w K mg base "is_out" 3 ["width", "doors", "thing"] (spP cm 3 m_is_out)) (C_is_below : CallOk P w K mg base "is_below" 2 ["thing", "many"] (spP cm 2 m_is_below)) {f : Addr} {fd : FuncData} (Fu : Fun K "is_rule" "is_rule" s_is_rule f fd) (hm : mg "is_rule" = some (.ref f)) (hb : Binds K fd ["width", "doors", "thing"] []) : CallOk P w K mg base "is_rule" 4 ["width", "doors", "thing"] (spP cm 3 m_is_rule) :=
  mk_pure (k := 3) Fu sc_is_rule hm hb fun cdv A outer s H E hr =>
      (ds_cons (ds_if (xt_lift [2] (DW.dt (dw_or (dt_not (dt_B (de_isi .tuple T.hk T.hC (by rfl) T.n_isinstance (by rfl) T.n_tuple (de_var (pv 2))))) (dw_or1 (dt_ne hr.units (de_len T.hk (by rfl) T.n_len (da_cons (de_var (pv 2)) da_nil)) de_int))))) (ds_one (ds_ret (xe_lift [] de_bl))) ds_nil)
      (ds_cons (ds_asg (xe_lift [2] (de_var (pv 2))) (xg_tup rfl (xgs_cons (xg_name 3 sc_is_rule.nd) (xgs_cons (xg_name 4 sc_is_rule.nd) (xgs_cons (xg_name 5 sc_is_rule.nd) xgs_nil)))))
      (ds_cons (ds_if (xt_lift [0, 1, 3, 4] (DW.dt (dw_or (DW.dt (dw_and (dt_isn (de_var (pv 3)) de_non) (dw_and1 (dt_not (dt_B (de_fz (de_fn C_is_below (hr.mono (by decide)) pxB (da_cons (de_var (pv 3)) (da_cons (de_var (pv 1)) da_nil))))))))) (dw_or1 (dt_not (dt_B (de_fz (de_fn C_is_pattern (hr.mono (by decide)) pxB (da_cons (de_var (pv 4)) (da_cons (de_var (pv 0)) da_nil)))))))))) (ds_one (ds_ret (xe_lift [] de_bl))) ds_nil)
      (ds_cons (ds_if (xt_lift [5] (DW.dt (dw_or (dt_not (dt_B (de_isi .list T.hk T.hC (by rfl) T.n_isinstance (by rfl) T.n_list (de_var (pv 5))))) (dw_or1 (dt_gt (de_len T.hk (by rfl) T.n_len (da_cons (de_var (pv 5)) da_nil)) (de_globI T.c_MOST_OUTS)))))) (ds_one (ds_ret (xe_lift [] de_bl))) ds_nil)
      (ds_one (ds_ret (xe_lift [0, 1, 5, 6] (de_all rfl (by rfl) T.n_all (da_cons (de_fz (de_lc rfl sc_is_rule.nd (di_list (de_var (pv 5))) (blkOk_by (own := [("out", 6)]) (N := N_is_rule) (sc := defScope s_is_rule) (by decide +kernel)) rfl (fun _ _ _ _ _ => (dg_name 6 sc_is_rule.nd)) (fun _ _ _ _ _ => dts_nil) (fun _ _ _ _ _ => (de_fn C_is_out (hr.mono (by decide)) pass_none (da_cons (de_var (pv 0)) (da_cons (de_var (pv 1)) (da_cons (de_var (pv 6)) da_nil))))))) da_nil)))))))))

set_option maxHeartbeats 4000000 in
theorem ok_look_at_switch (T : Txt w K mg cm) (C_is_below : CallOk P w K mg base "is_below" 2 ["thing", "many"] (spP cm 2 m_is_below)) (C_is_rule : CallOk P w K mg base "is_rule" 4 ["width", "doors", "thing"] (spP cm 3 m_is_rule)) {f : Addr} {fd : FuncData} (Fu : Fun K "look_at_switch" "look_at_switch" s_look_at_switch f fd) (hm : mg "look_at_switch" = some (.ref f)) (hb : Binds K fd ["width", "number", "thing"] []) : CallOk P w K mg base "look_at_switch" 5 ["width", "number", "thing"] (spP cm 3 m_look_at_switch) :=
  mk_pure (k := 4) Fu sc_look_at_switch hm hb fun cdv A outer s H E hr =>
      (ds_cons (ds_if (xt_lift [2] (DW.dt (dw_or (dt_not (dt_B (de_isi .tuple T.hk T.hC (by rfl) T.n_isinstance (by rfl) T.n_tuple (de_var (pv 2))))) (dw_or (dt_ne hr.units (de_len T.hk (by rfl) T.n_len (da_cons (de_var (pv 2)) da_nil)) de_int) (dw_or (dt_not (dt_B (de_fz (de_fn C_is_below (hr.mono (by decide)) pxB (da_cons (de_item T.hk (de_var (pv 2)) de_int) (da_cons (de_addI (de_globI T.c_MOST_DOORS) de_int) da_nil)))))) (dw_or1 (dt_eq hr.units (de_item T.hk (de_var (pv 2)) de_int) de_int))))))) (ds_one ds_never) ds_nil)
      (ds_cons (ds_asg (xe_lift [2] (de_var (pv 2))) (xg_tup rfl (xgs_cons (xg_name 3 sc_look_at_switch.nd) (xgs_cons (xg_name 4 sc_look_at_switch.nd) xgs_nil))))
      (ds_cons (ds_if (xt_lift [4] (DW.dt (dw_or (dt_not (dt_B (de_isi .list T.hk T.hC (by rfl) T.n_isinstance (by rfl) T.n_list (de_var (pv 4))))) (dw_or1 (dt_gt (de_len T.hk (by rfl) T.n_len (da_cons (de_var (pv 4)) da_nil)) (de_globI T.c_MOST_RULES)))))) (ds_one ds_never) ds_nil)
      (ds_one (ds_for poB rfl (xi_lift [4] (di_enum T.hk (by rfl) T.n_enumerate (da_cons (de_var (pv 4)) da_nil))) (xg_tup rfl (xgs_cons (xg_name 5 sc_look_at_switch.nd) (xgs_cons (xg_name 6 sc_look_at_switch.nd) xgs_nil))) (ds_one (ds_if (xt_lift [0, 3, 6] (dt_not (dt_B (de_fz (de_fn C_is_rule (hr.mono (by decide)) pxB (da_cons (de_var (pv 0)) (da_cons (de_var (pv 3)) (da_cons (de_var (pv 6)) da_nil)))))))) (ds_one ds_never) ds_nil)))))))

set_option maxHeartbeats 4000000 in
theorem ok_look_at_net (T : Txt w K mg cm) (C_look_at_links : CallOk P w K mg base "look_at_links" 4 ["switches", "links"] (spP cm 2 m_look_at_links)) (C_is_width : CallOk P w K mg base "is_width" 2 ["thing"] (spP cm 1 m_is_width)) (C_look_at_switch : CallOk P w K mg base "look_at_switch" 5 ["width", "number", "thing"] (spP cm 3 m_look_at_switch)) {f : Addr} {fd : FuncData} (Fu : Fun K "look_at_net" "look_at_net" s_look_at_net f fd) (hm : mg "look_at_net" = some (.ref f)) (hb : Binds K fd ["thing"] []) : CallOk P w K mg base "look_at_net" 6 ["thing"] (spP cm 1 m_look_at_net) :=
  mk_pure (k := 5) Fu sc_look_at_net hm hb fun cdv A outer s H E hr =>
      (ds_cons (ds_if (xt_lift [0] (DW.dt (dw_or (dt_not (dt_B (de_isi .tuple T.hk T.hC (by rfl) T.n_isinstance (by rfl) T.n_tuple (de_var (pv 0))))) (dw_or1 (dt_ne hr.units (de_len T.hk (by rfl) T.n_len (da_cons (de_var (pv 0)) da_nil)) de_int))))) (ds_one ds_never) ds_nil)
      (ds_cons (ds_asg (xe_lift [0] (de_var (pv 0))) (xg_tup rfl (xgs_cons (xg_name 1 sc_look_at_net.nd) (xgs_cons (xg_name 2 sc_look_at_net.nd) (xgs_cons (xg_name 3 sc_look_at_net.nd) xgs_nil)))))
      (ds_cons (ds_if (xt_lift [1] (dt_not (dt_B (de_fz (de_fn C_is_width (hr.mono (by decide)) pxB (da_cons (de_var (pv 1)) da_nil)))))) (ds_one ds_never) ds_nil)
      (ds_cons (ds_if (xt_lift [2] (DW.dt (dw_or (dt_not (dt_B (de_isi .list T.hk T.hC (by rfl) T.n_isinstance (by rfl) T.n_list (de_var (pv 2))))) (dw_or1 (dt_not (dt_lele de_int (de_len T.hk (by rfl) T.n_len (da_cons (de_var (pv 2)) da_nil)) (de_globI T.c_MOST_SWITCHES))))))) (ds_one ds_never) ds_nil)
      (ds_cons (ds_for poB rfl (xi_lift [2] (di_enum T.hk (by rfl) T.n_enumerate (da_cons (de_var (pv 2)) da_nil))) (xg_tup rfl (xgs_cons (xg_name 4 sc_look_at_net.nd) (xgs_cons (xg_name 5 sc_look_at_net.nd) xgs_nil))) (ds_one (ds_expr (xe_lift [1, 4, 5] (de_fn C_look_at_switch (hr.mono (by decide)) pxB (da_cons (de_var (pv 1)) (da_cons (de_var (pv 4)) (da_cons (de_var (pv 5)) da_nil))))))))
      (ds_one (ds_expr (xe_lift [2, 3] (de_fn C_look_at_links (hr.mono (by decide)) pxB (da_cons (de_var (pv 2)) (da_cons (de_var (pv 3)) da_nil)))))))))))

set_option maxHeartbeats 4000000 in
theorem fn_Reading_net (T : Txt w K mg cm)  {f : Addr} {fd : FuncData} (Fu : FunE K "net" "Reading.net" s_Reading_net [] f fd) : FnG P w K mg base 1 f fd ["self"] (spP cm 1 m_Reading_net) :=
  fn_pureE (k := 0) Fu sc_Reading_net fun cdv A outer s H E hr =>
      (ds_one (ds_ret (xe_lift [0] (de_tup (da_cons (de_fld (cl := "Reading") T.hk T.hC T.na_Reading_own_width (de_var (pv 0))) (da_cons (de_fld (cl := "Reading") T.hk T.hC T.na_Reading_own_switches (de_var (pv 0))) (da_cons (de_fld (cl := "Reading") T.hk T.hC T.na_Reading_own_links (de_var (pv 0))) da_nil)))))))

set_option maxHeartbeats 4000000 in
theorem ok_read (T : Txt w K mg cm) (C_Reading___init__ : MakeOk P w K mg base cm "Reading" 1 ["self"] [] (spX cm 1 m_Reading___init__)) (C_Reading_netM : MethOk P w K mg base cm "Reading" "net" 1 ["self"] [] (spX cm 1 m_Reading_netM)) (C_Reading_take : MethOk P w K mg base cm "Reading" "take" 8 ["self", "row"] [] (spX cm 2 m_Reading_take)) (C_look_at_net : CallOk P w K mg base "look_at_net" 6 ["thing"] (spP cm 1 m_look_at_net)) (C_Reading_net : MethOk P w K mg base cm "Reading" "net" 1 ["self"] [] (spP cm 1 m_Reading_net)) {f : Addr} {fd : FuncData} (Fu : Fun K "read" "read" s_read f fd) (hm : mg "read" = some (.ref f)) (hb : Binds K fd ["text"] []) : CallOk P w K mg base "read" 12 ["text"] (spP cm 1 m_read) :=
  mk_pure (k := 11) Fu sc_read hm hb fun cdv A outer s H E hr =>
      (ds_cons (ds_if (xt_lift [0] (dt_not (dt_B (de_isi .str T.hk T.hC (by rfl) T.n_isinstance (by rfl) T.n_str (de_var (pv 0)))))) (ds_one ds_never) ds_nil)
      (ds_cons (ds_set 1 sc_read.nd (xe_lift [] (de_make0 T.ok_Reading C_Reading___init__ (hr.mono (by decide)) pxB)))
      (ds_cons (ds_for poB rfl (xi_lift [0] (di_list (de_fz (de_split (de_var (pv 0)) (de_str [10]))))) (xg_name 2 sc_read.nd) (ds_one (ds_expr (xe_mio 1 T.hk T.hC T.ok_Reading C_Reading_take (hr.mono (by decide)) pxB (pv 1) (xa_lift [2] (da_cons (de_var (pv 2)) da_nil))))))
      (ds_cons (ds_tryN (fun E' pn' xe' tk po => (ds_one (ds_expr (xe_lift [1] (de_fn C_look_at_net (hr.mono (by decide)) tk.pass (da_cons (de_fz (de_meth0 T.hk T.hC T.ok_Reading C_Reading_net (hr.mono (by decide)) tk.pass (de_var (pv 1)))) da_nil)))))))
      (ds_one (ds_ret (xe_mio0 1 T.hk T.hC T.ok_Reading C_Reading_netM (hr.mono (by decide)) pxB (pv 1))))))))

set_option maxHeartbeats 4000000 in
theorem ok_shown_outs (T : Txt w K mg cm)  {f : Addr} {fd : FuncData} (Fu : Fun K "shown_outs" "shown_outs" s_shown_outs f fd) (hm : mg "shown_outs" = some (.ref f)) (hb : Binds K fd ["outs"] []) : CallOk P w K mg base "shown_outs" 1 ["outs"] (spP cm 1 m_shown_outs) :=
  mk_pure (k := 0) Fu sc_shown_outs hm hb fun cdv A outer s H E hr =>
      (ds_one (ds_ret (xe_lift [0, 1, 2] (de_orS (de_join (de_str [32]) (de_fz (de_lc rfl sc_shown_outs.nd (di_list (de_var (pv 0))) (blkOk_by (own := [("door", 1), ("by", 2)]) (N := N_shown_outs) (sc := defScope s_shown_outs) (by decide +kernel)) rfl (fun _ _ _ _ _ => (dg_tup rfl (dgs_cons (dg_name 1 sc_shown_outs.nd) (dgs_cons (dg_name 2 sc_shown_outs.nd) dgs_nil)))) (fun _ _ _ _ _ => dts_nil) (fun _ _ _ _ _ => (de_addS (de_addS (de_str1 (by rfl) T.n_str (da_cons (de_var (pv 1)) da_nil)) (de_str [58])) (de_var (pv 2))))))) (de_one (de_str [45]))))))

set_option maxHeartbeats 4000000 in
theorem ok_shown_rule (T : Txt w K mg cm) (C_shown_outs : CallOk P w K mg base "shown_outs" 1 ["outs"] (spP cm 1 m_shown_outs)) {f : Addr} {fd : FuncData} (Fu : Fun K "shown_rule" "shown_rule" s_shown_rule f fd) (hm : mg "shown_rule" = some (.ref f)) (hb : Binds K fd ["rule"] []) : CallOk P w K mg base "shown_rule" 2 ["rule"] (spP cm 1 m_shown_rule) :=
  mk_pure (k := 1) Fu sc_shown_rule hm hb fun cdv A outer s H E hr =>
      (ds_cons (ds_asg (xe_lift [0] (de_var (pv 0))) (xg_tup rfl (xgs_cons (xg_name 1 sc_shown_rule.nd) (xgs_cons (xg_name 2 sc_shown_rule.nd) (xgs_cons (xg_name 3 sc_shown_rule.nd) xgs_nil)))))
      (ds_one (ds_ret (xe_lift [1, 2, 3] (de_join (de_str [32]) (de_fz (de_lst (da_cons (de_item T.hk (de_fz (de_lst (da_cons (de_str [42]) (da_cons (de_str2 (by rfl) T.n_str (da_cons (de_var (pv 1)) da_nil)) da_nil)))) (de_intc (by rfl) T.n_int (da_cons (de_isn (de_var (pv 1)) de_non) da_nil))) (da_cons (de_var (pv 2)) (da_cons (de_fn C_shown_outs (hr.mono (by decide)) pxB (da_cons (de_var (pv 3)) da_nil)) da_nil))))))))))

set_option maxHeartbeats 4000000 in
theorem ok_shown_place (T : Txt w K mg cm)  {f : Addr} {fd : FuncData} (Fu : Fun K "shown_place" "shown_place" s_shown_place f fd) (hm : mg "shown_place" = some (.ref f)) (hb : Binds K fd ["place"] []) : CallOk P w K mg base "shown_place" 1 ["place"] (spP cm 1 m_shown_place) :=
  mk_pure (k := 0) Fu sc_shown_place hm hb fun cdv A outer s H E hr =>
      (ds_one (ds_ret (xe_lift [0, 1] (de_join (de_str [46]) (de_fz (de_lc rfl sc_shown_place.nd (di_tup (de_var (pv 0))) (blkOk_by (own := [("number", 1)]) (N := N_shown_place) (sc := defScope s_shown_place) (by decide +kernel)) rfl (fun _ _ _ _ _ => (dg_name 1 sc_shown_place.nd)) (fun _ _ _ _ _ => dts_nil) (fun _ _ _ _ _ => (de_str2 (by rfl) T.n_str (da_cons (de_var (pv 1)) da_nil)))))))))

set_option maxHeartbeats 4000000 in
theorem ok_shown (T : Txt w K mg cm) (C_shown_rule : CallOk P w K mg base "shown_rule" 2 ["rule"] (spP cm 1 m_shown_rule)) (C_shown_place : CallOk P w K mg base "shown_place" 1 ["place"] (spP cm 1 m_shown_place)) {f : Addr} {fd : FuncData} (Fu : Fun K "shown" "shown" s_shown f fd) (hm : mg "shown" = some (.ref f)) (hb : Binds K fd ["net"] []) : CallOk P w K mg base "shown" 3 ["net"] (spP cm 1 m_shown) :=
  mk_pure (k := 2) Fu sc_shown hm hb fun cdv A outer s H E hr =>
      (ds_cons (ds_asg (xe_lift [0] (de_var (pv 0))) (xg_tup rfl (xgs_cons (xg_name 2 sc_shown.nd) (xgs_cons (xg_name 3 sc_shown.nd) (xgs_cons (xg_name 4 sc_shown.nd) xgs_nil)))))
      (ds_cons (ds_set 1 sc_shown.nd (xe_lift [2] (de_lst (da_cons (de_addS (de_str [119, 105, 100, 116, 104, 32]) (de_str1 (by rfl) T.n_str (da_cons (de_var (pv 2)) da_nil))) da_nil))))
      (ds_cons (ds_for poB rfl (xi_lift [3] (di_list (de_var (pv 3)))) (xg_tup rfl (xgs_cons (xg_name 5 sc_shown.nd) (xgs_cons (xg_name 6 sc_shown.nd) xgs_nil))) (ds_cons (ds_expr (xe_app 1 (pv 1) (xe_lift [5] (de_addS (de_str [115, 119, 105, 116, 99, 104, 32]) (de_str1 (by rfl) T.n_str (da_cons (de_var (pv 5)) da_nil))))))
      (ds_one (ds_expr (xe_extP 1 [6, 7] (xp_var 1 (pv 1)) (de_lc rfl sc_shown.nd (di_list (de_var (pv 6))) (blkOk_by (own := [("rule", 7)]) (N := N_shown) (sc := defScope s_shown) (by decide +kernel)) rfl (fun _ _ _ _ _ => (dg_name 7 sc_shown.nd)) (fun _ _ _ _ _ => dts_nil) (fun _ _ _ _ _ => (de_fn C_shown_rule (hr.mono (by decide)) pass_none (da_cons (de_var (pv 7)) da_nil)))))))))
      (ds_cons (ds_expr (xe_extP 1 [4, 8, 9] (xp_var 1 (pv 1)) (de_lc rfl sc_shown.nd (di_list (de_var (pv 4))) (blkOk_by (own := [("one", 8), ("other", 9)]) (N := N_shown) (sc := defScope s_shown) (by decide +kernel)) rfl (fun _ _ _ _ _ => (dg_tup rfl (dgs_cons (dg_name 8 sc_shown.nd) (dgs_cons (dg_name 9 sc_shown.nd) dgs_nil)))) (fun _ _ _ _ _ => dts_nil) (fun _ _ _ _ _ => (de_addS (de_addS (de_addS (de_str [108, 105, 110, 107, 32]) (de_fz (de_fn C_shown_place (hr.mono (by decide)) pass_none (da_cons (de_var (pv 8)) da_nil)))) (de_str [32])) (de_fz (de_fn C_shown_place (hr.mono (by decide)) pass_none (da_cons (de_var (pv 9)) da_nil))))))))
      (ds_one (ds_ret (xe_lift [1] (de_join (de_str [10]) (de_var (pv 1))))))))))

set_option maxHeartbeats 4000000 in
theorem fn_law (T : Txt w K mg cm) (C__law_pool : CallOk P w K mg base "_law_pool" 2 ["_law_script", "_law_k"] (spP cm 2 m__law_pool)) (C__law_net : CallOk P w K mg base "_law_net" 5 ["_law_pool_here", "_law_width", "_law_many"] (spX cm 3 m__law_net)) (C__law_written : CallOk P w K mg base "_law_written" 2 ["_law_net_here"] (spP cm 1 m__law_written)) (C_read : CallOk P w K mg base "read" 12 ["text"] (spP cm 1 m_read)) (C__law_take : CallOk P w K mg base "_law_take" 1 ["_law_pool_here", "_law_many"] (spX cm 2 m__law_take)) (C_shown : CallOk P w K mg base "shown" 3 ["net"] (spP cm 1 m_shown)) {f : Addr} {fd : FuncData} (Fu : Fun K "law" "law" s_law f fd) : FnG P w K mg base 13 f fd ["_law_script"] (spP cm 1 m_law) :=
  fn_pure (k := 12) Fu sc_law fun cdv A outer s H E hr =>
      (ds_cons (ds_for poB rfl (xi_range1 (by rfl) T.n_range (xa_lift [0] (da_cons (de_max2 rfl (by rfl) T.n_max (da_cons de_int (da_cons (de_min2 rfl (by rfl) T.n_min (da_cons (de_len T.hk (by rfl) T.n_len (da_cons (de_var (pv 0)) da_nil)) (da_cons de_int da_nil))) da_nil))) da_nil))) (xg_name 1 sc_law.nd) (ds_cons (ds_set 2 sc_law.nd (xe_lift [0, 1] (de_fn C__law_pool (hr.mono (by decide)) pxB (da_cons (de_var (pv 0)) (da_cons (de_var (pv 1)) da_nil)))))
      (ds_cons (ds_set 3 sc_law.nd (xe_fio 2 C__law_net (hr.mono (by decide)) pxB (pv 2) (xa_cons (xe_op op_add o_I0 noEx_I0 (xe_lift [] de_int) (xe_fio 2 C__law_take (hr.mono (by decide)) pxB (pv 2) (xa_lift [] (da_cons de_int da_nil)))) (xa_cons (xe_lift [] de_int) xa_nil))))
      (ds_cons (ds_set 4 sc_law.nd (xe_lift [3] (de_repr hr.gd hr.units (by rfl) T.n_repr (da_cons (de_var (pv 3)) da_nil))))
      (ds_cons (ds_set 5 sc_law.nd (xe_lift [3] (de_fn C__law_written (hr.mono (by decide)) pxB (da_cons (de_var (pv 3)) da_nil))))
      (ds_cons (ds_if (xt_lift [3, 4, 5] (DW.dt (dw_or (dt_ne hr.units (de_fz (de_fn C_shown (hr.mono (by decide)) pxB (da_cons (de_var (pv 3)) da_nil))) (de_var (pv 5))) (dw_or1 (dt_ne hr.units (de_repr hr.gd hr.units (by rfl) T.n_repr (da_cons (de_var (pv 3)) da_nil)) (de_var (pv 4))))))) (ds_one (ds_ret (xe_lift [] de_bl))) ds_nil)
      (ds_cons (ds_for poB rfl (xi_range1 (by rfl) T.n_range (xa_lift [] (da_cons de_int da_nil))) (xg_name 6 sc_law.nd) (ds_cons (ds_set 8 sc_law.nd (xe_lift [5] (de_fn C_read (hr.mono (by decide)) pxB (da_cons (de_var (pv 5)) da_nil))))
      (ds_cons (ds_if (xt_lift [4, 8] (dt_ne hr.units (de_repr hr.gd hr.units (by rfl) T.n_repr (da_cons (de_var (pv 8)) da_nil)) (de_var (pv 4)))) (ds_one (ds_ret (xe_lift [] de_bl))) ds_nil)
      (ds_cons (ds_expr (xe_appP 8 [] (xp_ix 8 [] (xp_var 8 (pv 8)) de_int) de_non))
      (ds_cons (ds_forM 8 poB rfl (xp_ix 8 [] (xp_var 8 (pv 8)) de_int) (yg_tup rfl (ygs_cons (yg_name 10 sc_law.nd) (ygs_cons (yg_name 11 sc_law.nd) ygs_nil))) (ds_cons (ds_if (xt_lift [11] (dt_ne hr.units (de_var (pv 11)) (de_fz (de_lst da_nil)))) (ds_one (ds_expr (xe_appP 11 [] (xp_ix 11 [] (xp_ix 11 [] (xp_var 11 (pv 11)) de_int) de_int) de_non))) ds_nil)
      (ds_one (ds_expr (xe_clrP 11 (xp_var 11 (pv 11)))))))
      (ds_one (ds_expr (xe_clrP 8 (xp_ix 8 [] (xp_var 8 (pv 8)) de_int)))))))))
      (ds_one (ds_for poB rfl (xi_lift [] (di_list (de_fz (de_lst (da_cons (de_tup (da_cons de_int (da_cons (de_str [49, 42, 48]) da_nil))) (da_cons (de_tup (da_cons de_int (da_cons (de_str [48]) da_nil))) da_nil)))))) (xg_name 7 sc_law.nd) (ds_cons (ds_set 9 sc_law.nd (xe_lift [7] (de_tup (da_cons (de_len T.hk (by rfl) T.n_len (da_cons (de_item T.hk (de_var (pv 7)) de_int) da_nil)) (da_cons (de_mulL (de_fz (de_lst (da_cons (de_tup (da_cons (de_item T.hk (de_var (pv 7)) de_int) (da_cons (de_lst (da_cons (de_tup (da_cons (de_subI (de_item T.hk (de_var (pv 7)) de_int) de_int) (da_cons (de_item T.hk (de_var (pv 7)) de_int) (da_cons (de_mulL (de_fz (de_lst (da_cons (de_tup (da_cons de_int (da_cons (de_item T.hk (de_var (pv 7)) de_int) da_nil))) da_nil))) de_int) da_nil)))) da_nil)) da_nil))) da_nil))) de_int) (da_cons (de_lst da_nil) da_nil))))))
      (ds_one (ds_if (xt_lift [9] (DW.dt (dw_or (dt_ne hr.units (de_fz (de_fn C_read (hr.mono (by decide)) pxB (da_cons (de_fz (de_fn C_shown (hr.mono (by decide)) pxB (da_cons (de_var (pv 9)) da_nil))) da_nil))) (de_var (pv 9))) (dw_or1 (dt_ne hr.units (de_fz (de_fn C_shown (hr.mono (by decide)) pxB (da_cons (de_fz (de_fn C_read (hr.mono (by decide)) pxB (da_cons (de_fz (de_fn C__law_written (hr.mono (by decide)) pxB (da_cons (de_var (pv 9)) da_nil))) da_nil))) da_nil))) (de_fz (de_fn C__law_written (hr.mono (by decide)) pxB (da_cons (de_var (pv 9)) da_nil)))))))) (ds_one (ds_ret (xe_lift [] de_bl))) ds_nil))))))))))))
      (ds_one (ds_ret (xe_lift [] de_bl))))

end
end My

namespace My
open PySem L2 DL
variable {X : Xc → DL.Env → Prop}
def Pool (p : D) : Prop := ∃ a b : Int, p = .lst true [.int a, .int b] ∧ 0 ≤ b ∧ b < 2147483647
theorem Pool.shr {p : D} (h : Pool p) : DL.shr p = false := by
  obtain ⟨a, b, rfl, _⟩ := h; rfl
theorem cmul_l {i j : Int} (h0 : 0 ≤ i) (h : i < 4294967296) : CMul i j := .inl ⟨by omega, by omega⟩
theorem cmul_r {i j : Int} (h0 : 0 ≤ j) (h : j < 4294967296) : CMul i j := .inr ⟨by omega, by omega⟩
theorem cell_spec {ns : List Int} {k : Int} (hk : 0 ≤ k) {P : D → Prop} (h : ∀ c : Int, P (.int c)) : WO' X (m__law_cell_at [.scr ns, .int k]) P := by
  unfold m__law_cell_at
  rw [WO_runP (by rfl)]
  unfold g__law_cell_at
  simp
  by_cases hl : k < ns.length
  · simp only [hl, if_true]
    obtain ⟨a, h1, _⟩ := WO_at hk hl
    exact ⟨_, ⟨a, h1, rfl⟩, h a⟩
  · simp only [hl, if_false]
    exact h 0
theorem pool_spec {ns : List Int} {k : Int} (hk : 0 ≤ k) (hk' : k ≤ 100) {P : D → Prop} (h : ∀ p, Pool p → P p) : WO' X (m__law_pool [.scr ns, .int k]) P := by
  unfold m__law_pool
  rw [WO_runP (by rfl)]
  unfold g__law_pool
  simp
  refine cell_spec hk fun c => ?_
  simp
  generalize hs : (c % 2147483629 + 7919 * k * k + 1) * 48271 % 2147483647 = s
  have h0 : 0 ≤ s := by omega
  have h1 : s < 2147483647 := by omega
  have hm : CMul s s := cmul_l h0 (by omega)
  refine ⟨cmul_l (by omega) (by omega), cmul_r hk (by omega), cmul_r (by omega) (by omega), by decide, ?_⟩
  split
  · exact ⟨hm, h _ ⟨_, _, rfl, by omega, by omega⟩⟩
  · exact ⟨hm, h _ ⟨_, _, rfl, by omega, by omega⟩⟩
theorem take_spec {p : D} {n : Int} (hp : Pool p) (h0 : 0 < n) (h1 : n ≤ 1000000) {P : D × D → Prop} (h : ∀ (x : Nat) (q : D), (x : Int) < n → Pool q → P (.int x, q)) : WO' X (m__law_take [p, .int n]) P := by
  replace h : ∀ (x : Int) (q : D), 0 ≤ x → x < n → Pool q → P (.int x, q) := fun x q h0 h1 hq => by
    obtain ⟨k, rfl⟩ := Int.eq_ofNat_of_zero_le h0
    exact h k q h1 hq
  obtain ⟨a, b, rfl, hb0, hb1⟩ := hp
  unfold m__law_take
  rw [WO_runX (by rfl)]
  unfold g__law_take
  simp
  split
  · rename_i ha
    exact ⟨h0, ⟨by omega, by omega⟩, h _ _ (Int.emod_nonneg _ (by omega)) (Int.emod_lt_of_pos _ h0) ⟨_, _, rfl, hb0, hb1⟩⟩
  · generalize hs : (b * 48271 + 11) % 2147483647 = s
    have h2 : 0 ≤ s := by omega
    have h3 : s < 2147483647 := by omega
    exact ⟨cmul_l hb0 (by omega), cmul_l h2 (by omega), ⟨by omega, by omega⟩, h0, h _ _ (Int.emod_nonneg _ (by omega)) (Int.emod_lt_of_pos _ h0) ⟨_, _, rfl, h2, h3⟩⟩
theorem text_spec {p : D} {w : Int} {ss : List Nat} (hp : Pool p) (h0 : 0 ≤ w) (h1 : w ≤ 1000) (hs0 : 0 < ss.length) (hs1 : ss.length ≤ 1000) {P : D × D → Prop} (h : ∀ (cs : List Nat) (q : D), (cs.length : Int) = w → (∀ c ∈ cs, c ∈ ss) → Pool q → P (.str cs, q)) : WO' X (m__law_text [p, .int w, .str ss]) P := by
  unfold m__law_text
  rw [WO_runX (by rfl)]
  unfold g__law_text
  simp
  refine WO_xLc (fun acc ds r => ∃ (cs : List Nat) (q : D) (x : Option D), acc = cs.map (fun c => D.str [c]) ∧ (∀ c ∈ cs, c ∈ ss) ∧ (cs.length + ds.length : Int) = w ∧ Pool q ∧ r = [some q, some (.int w), some (.str ss), x]) ?_ ?_ ?_
  · simp
    exact ⟨⟨by omega, by omega⟩, by omega, by omega, hp⟩
  · rintro acc d ds r ⟨cs, q, x, rfl, hc, hl, hq, rfl⟩
    simp
    refine ⟨by omega, take_spec hq (by omega) (by omega) fun x q h3 hq' => ?_⟩
    simp
    obtain ⟨c, h4, h5⟩ := WO_at (Int.natCast_nonneg x) h3
    refine ⟨by omega, _, ⟨c, h4, rfl⟩, cs ++ [c], by simp, ?_, ?_, hq'⟩
    · intro c' hc'
      rcases List.mem_append.mp hc' with h6 | h6
      · exact hc _ h6
      · cases List.mem_singleton.mp h6; exact h5
    · simp at hl ⊢; omega
  · rintro ys r ⟨cs, q, x, rfl, hc, hl, hq, rfl⟩
    simp at hl ⊢
    exact ⟨by omega, h _ _ hl hc hq⟩
end My

namespace My
open PySem L2 DL
variable {X : Xc → DL.Env → Prop}
end My

namespace My
open PySem L2 DL
variable {X : Xc → DL.Env → Prop}
end My

namespace My
def IsP (p : List Nat) : Prop := ∀ c ∈ p, c = 48 ∨ c = 49 ∨ c = 42
def IsH (p : List Nat) : Prop := ∀ c ∈ p, c = 48 ∨ c = 49
theorem IsH.p {p : List Nat} (h : IsH p) : IsP p := fun c m => (h c m).elim .inl fun z => .inr (.inl z)
end My

namespace My
open PySem L2 DL
structure Rule where
  door : Option Nat
  pat : List Nat
  outs : List (Nat × List Nat)
deriving DecidableEq
structure Net where
  w : Nat
  sw : List (Nat × List Rule)
  ln : List ((Nat × Nat) × (Nat × Nat))
deriving DecidableEq
abbrev Pl := Nat × Nat
def eO : Option Nat → D
  | some n => .int n
  | none => .non
def ePl (p : Pl) : D := .tup [.int p.1, .int p.2]
def eOut (o : Nat × List Nat) : D := .tup [.int o.1, .str o.2]
def eRule (r : Rule) : D := .tup [eO r.door, .str r.pat, .lst false (r.outs.map eOut)]
def eSw (s : Nat × List Rule) : D := .tup [.int s.1, .lst false (s.2.map eRule)]
def eLn (l : Pl × Pl) : D := .tup [ePl l.1, ePl l.2]
def eNet (n : Net) : D := .tup [.int n.w, .lst false (n.sw.map eSw), .lst false (n.ln.map eLn)]
def eOPl : Option Pl → D
  | some p => ePl p
  | none => .non
@[simp] theorem frz_eO {o : Option Nat} : frz (eO o) = eO o := by cases o <;> rfl
@[simp] theorem frz_ePl {p : Pl} : frz (ePl p) = ePl p := rfl
@[simp] theorem frz_eOPl {p : Option Pl} : frz (eOPl p) = eOPl p := by cases p <;> rfl
@[simp] theorem frz_eOut {o : Nat × List Nat} : frz (eOut o) = eOut o := rfl
@[simp] theorem frz_eRule {r : Rule} : frz (eRule r) = eRule r := by simp [eRule]
@[simp] theorem frz_eSw {r : Nat × List Rule} : frz (eSw r) = eSw r := by simp [eSw]
@[simp] theorem frz_eLn {r : Pl × Pl} : frz (eLn r) = eLn r := by simp [eLn]
@[simp] theorem frz_eNet {r : Net} : frz (eNet r) = eNet r := by simp [eNet]
@[simp] theorem shr_eO {o : Option Nat} : shr (eO o) = false := by cases o <;> rfl
@[simp] theorem shr_ePl {p : Pl} : shr (ePl p) = false := rfl
@[simp] theorem shr_eOPl {p : Option Pl} : shr (eOPl p) = false := by cases p <;> rfl
@[simp] theorem shr_eOut {p : Nat × List Nat} : shr (eOut p) = false := rfl
@[simp] theorem shr_eRule {p : Rule} : shr (eRule p) = true := by simp [eRule]
@[simp] theorem shr_eSw {p : Nat × List Rule} : shr (eSw p) = true := by simp [eSw]
@[simp] theorem shr_eLn {p : Pl × Pl} : shr (eLn p) = false := by simp [eLn]
@[simp] theorem shr_eNet {p : Net} : shr (eNet p) = true := by simp [eNet]
@[simp] theorem plain_eO {o : Option Nat} : plainD (eO o) = true := by cases o <;> rfl
@[simp] theorem plain_ePl {p : Pl} : plainD (ePl p) = true := rfl
@[simp] theorem plain_eOPl {p : Option Pl} : plainD (eOPl p) = true := by cases p <;> rfl
@[simp] theorem plain_eOut {p : Nat × List Nat} : plainD (eOut p) = true := rfl
theorem plain_lst {b : Bool} {xs : List D} : plainD (.lst b xs) = plainDs xs := rfl
theorem plain_tup {xs : List D} : plainD (.tup xs) = plainDs xs := rfl
theorem plains_cons {x : D} {xs : List D} : plainDs (x :: xs) = (plainD x && plainDs xs) := rfl
theorem plains_nil : plainDs [] = true := rfl
@[simp] theorem plain_eRule {p : Rule} : plainD (eRule p) = true := by simp [eRule, plain_lst, plain_tup, plains_cons, plains_nil, plainD]
@[simp] theorem plain_eSw {p : Nat × List Rule} : plainD (eSw p) = true := by simp [eSw, plain_lst, plain_tup, plains_cons, plains_nil, plainD]
@[simp] theorem plain_eLn {p : Pl × Pl} : plainD (eLn p) = true := by simp [eLn, plain_lst, plain_tup, plains_cons, plains_nil, plainD]
@[simp] theorem plain_eNet {p : Net} : plainD (eNet p) = true := by simp [eNet, plain_lst, plain_tup, plains_cons, plains_nil, plainD]
theorem dle_lst {n : Nat} {b : Bool} {xs : List D} : dle (n + 1) (.lst b xs) = dles n xs := rfl
theorem dle_tup {n : Nat} {xs : List D} : dle (n + 1) (.tup xs) = dles n xs := rfl
theorem dles_cons {n : Nat} {x : D} {xs : List D} : dles n (x :: xs) = (dle n x && dles n xs) := by cases n <;> rfl
theorem dles_nil {n : Nat} : dles n [] = true := by cases n <;> rfl
@[simp] theorem dle_int {n : Nat} {i : Int} : dle n (.int i) = true := by cases n <;> rfl
@[simp] theorem dle_str {n : Nat} {i : List Nat} : dle n (.str i) = true := by cases n <;> rfl
@[simp] theorem dle_non {n : Nat} : dle n .non = true := by cases n <;> rfl
@[simp] theorem dle_bl {n : Nat} {i : Bool} : dle n (.bl i) = true := by cases n <;> rfl
@[simp] theorem dle_eO {n : Nat} {o : Option Nat} : dle n (eO o) = true := by cases o <;> simp [eO]
@[simp] theorem dle_ePl {n : Nat} {p : Pl} : dle (n + 1) (ePl p) = true := by simp [ePl, dle_tup, dles_cons, dles_nil]
@[simp] theorem dle_eOPl {n : Nat} {p : Option Pl} : dle (n + 1) (eOPl p) = true := by cases p <;> simp [eOPl]
@[simp] theorem dle_eOut {n : Nat} {p : Nat × List Nat} : dle (n + 1) (eOut p) = true := by simp [eOut, dle_tup, dles_cons, dles_nil]
@[simp] theorem dle_eRule {n : Nat} {p : Rule} : dle (n + 3) (eRule p) = true := by simp [eRule, dle_tup, dles_cons, dles_nil, dle_lst]
@[simp] theorem dle_eSw {n : Nat} {p : Nat × List Rule} : dle (n + 5) (eSw p) = true := by simp [eSw, dle_tup, dles_cons, dles_nil, dle_lst]
@[simp] theorem dle_eLn {n : Nat} {p : Pl × Pl} : dle (n + 2) (eLn p) = true := by simp [eLn, dle_tup, dles_cons, dles_nil]
@[simp] theorem dle_eNet {n : Nat} {p : Net} : dle (n + 7) (eNet p) = true := by simp [eNet, dle_tup, dles_cons, dles_nil, dle_lst]
@[simp] theorem eqD_ePl {p q : Pl} : eqD (ePl p) (ePl q) = decide (p = q) := by
  obtain ⟨a, b⟩ := p
  obtain ⟨c, d⟩ := q
  simp only [ePl, eqD, eqDs, Bool.and_true]
  rw [Bool.eq_iff_iff]
  simp
  omega
@[simp] theorem eqD_ePlN {p : Pl} : eqD (ePl p) .non = false := rfl
@[simp] theorem eqD_NePl {p : Pl} : eqD .non (ePl p) = false := rfl
@[simp] theorem eqD_eOPl {p q : Option Pl} : eqD (eOPl p) (eOPl q) = decide (p = q) := by cases p <;> cases q <;> simp [eOPl, eqD]
theorem gIsN_eO {p : Option Nat} {neg : Bool} : gIsN neg (eO p) .non = .ok (.bl (p.isNone != neg)) := by cases p <;> rfl
@[simp] theorem eqD_eO {p : Option Nat} {k : Nat} : eqD (eO p) (.int k) = decide (p = some k) := by
  cases p with
  | none => rfl
  | some n => simp [eO, eqD]; rw [Bool.eq_iff_iff]; simp; omega
@[simp] theorem eqD_Oe {p : Option Nat} {k : Nat} : eqD (.int k) (eO p) = decide (p = some k) := by
  cases p with
  | none => rfl
  | some n => simp [eO, eqD]; rw [Bool.eq_iff_iff]; simp; omega
@[simp] theorem eqD_eON {p : Option Nat} : eqD (eO p) .non = p.isNone := by cases p <;> rfl
@[simp] theorem eqD_NeO {p : Option Nat} : eqD .non (eO p) = p.isNone := by cases p <;> rfl
@[simp] theorem ix_net0 {n : Net} : gIx (eNet n) (.int 0) = .ok (.int n.w) := rfl
@[simp] theorem ix_net1 {n : Net} : gIx (eNet n) (.int 1) = .ok (.lst false (n.sw.map eSw)) := rfl
@[simp] theorem ix_net2 {n : Net} : gIx (eNet n) (.int 2) = .ok (.lst false (n.ln.map eLn)) := rfl
@[simp] theorem ix_pl0 {n : Pl} : gIx (ePl n) (.int 0) = .ok (.int n.1) := rfl
@[simp] theorem ix_pl1 {n : Pl} : gIx (ePl n) (.int 1) = .ok (.int n.2) := rfl
@[simp] theorem ix_sw0 {n : Nat × List Rule} : gIx (eSw n) (.int 0) = .ok (.int n.1) := rfl
@[simp] theorem ix_sw1 {n : Nat × List Rule} : gIx (eSw n) (.int 1) = .ok (.lst false (n.2.map eRule)) := rfl
@[simp] theorem ix_rule0 {n : Rule} : gIx (eRule n) (.int 0) = .ok (eO n.door) := rfl
@[simp] theorem ix_rule1 {n : Rule} : gIx (eRule n) (.int 1) = .ok (.str n.pat) := rfl
@[simp] theorem ix_rule2 {n : Rule} : gIx (eRule n) (.int 2) = .ok (.lst false (n.outs.map eOut)) := rfl
@[simp] theorem tg_ln {r : DL.Env} {g : List D → DL.Env → Out DL.Env} {l : Pl × Pl} : sT 2 g (eLn l) r = g [ePl l.1, ePl l.2] r := rfl
@[simp] theorem tg_out {r : DL.Env} {g : List D → DL.Env → Out DL.Env} {l : Nat × List Nat} : sT 2 g (eOut l) r = g [.int l.1, .str l.2] r := rfl
@[simp] theorem tg_sw {r : DL.Env} {g : List D → DL.Env → Out DL.Env} {l : Nat × List Rule} : sT 2 g (eSw l) r = g [.int l.1, .lst false (l.2.map eRule)] r := rfl
@[simp] theorem tg_rule {r : DL.Env} {g : List D → DL.Env → Out DL.Env} {l : Rule} : sT 3 g (eRule l) r = g [eO l.door, .str l.pat, .lst false (l.outs.map eOut)] r := rfl
@[simp] theorem tg_pl {r : DL.Env} {g : List D → DL.Env → Out DL.Env} {l : Pl} : sT 2 g (ePl l) r = g [.int l.1, .int l.2] r := rfl
@[simp] theorem tg_net {r : DL.Env} {g : List D → DL.Env → Out DL.Env} {n : Net} : sT 3 g (eNet n) r = g [.int n.w, .lst false (n.sw.map eSw), .lst false (n.ln.map eLn)] r := rfl
def eCome (c : Bool × Pl × List Nat) : D := .tup [.str (if c.1 = true then [105, 110] else [111, 117, 116]), ePl c.2.1, .str c.2.2]
@[simp] theorem frz_eCome {c : Bool × Pl × List Nat} : frz (eCome c) = eCome c := by simp [eCome]
@[simp] theorem shr_eCome {c : Bool × Pl × List Nat} : shr (eCome c) = false := by simp [eCome]
@[simp] theorem plain_eCome {c : Bool × Pl × List Nat} : plainD (eCome c) = true := by simp [eCome, plain_lst, plain_tup, plains_cons, plains_nil, plainD]
@[simp] theorem dle_eCome {n : Nat} {c : Bool × Pl × List Nat} : dle (n + 2) (eCome c) = true := by simp [eCome, dle_tup, dles_cons, dles_nil]
def rulesAt (n : Net) (k : Nat) : List Rule := (n.sw.getD k (0, [])).2
def doorsAt (n : Net) (k : Nat) : Nat := (n.sw.getD k (0, [])).1
def OkPl (n : Net) (p : Pl) : Prop := p.1 < n.sw.length ∧ p.2 < doorsAt n p.1
instance {n : Net} {p : Pl} : Decidable (OkPl n p) := inferInstanceAs (Decidable (_ ∧ _))
structure OkR (w d : Nat) (r : Rule) : Prop where
  door : ∀ k, r.door = some k → k < d
  pl : r.pat.length = w
  pp : IsP r.pat
  ol : r.outs.length ≤ 3
  od : ∀ o ∈ r.outs, o.1 < d ∧ o.2.length = w ∧ IsP o.2
def ltPl (p q : Pl) : Bool := decide (p.1 < q.1) || (decide (p.1 = q.1) && decide (p.2 < q.2))
theorem ltPl_or {p q : Pl} (h : p ≠ q) : (ltPl p q = true ∧ ltPl q p = false) ∨ (ltPl p q = false ∧ ltPl q p = true) := by
  obtain ⟨a, b⟩ := p
  obtain ⟨c, d⟩ := q
  simp [ltPl] at h ⊢
  omega
def allPl (ss : List (Nat × List Rule)) : List Pl := ss.zipIdx.flatMap fun s => (List.range s.1.1).map fun d => (s.2, d)
def endsL (ls : List (Pl × Pl)) : List Pl := ls.flatMap fun l => [l.1, l.2]
structure OkN (n : Net) : Prop where
  w0 : 1 ≤ n.w
  w1 : n.w ≤ 16
  s0 : 1 ≤ n.sw.length
  s1 : n.sw.length ≤ 8
  d : ∀ s ∈ n.sw, 1 ≤ s.1 ∧ s.1 ≤ 6 ∧ s.2.length ≤ 20 ∧ ∀ r ∈ s.2, OkR n.w s.1 r
  l1 : n.ln.length ≤ 24
  lp : ∀ l ∈ n.ln, OkPl n l.1 ∧ OkPl n l.2
  lt : ∀ l ∈ n.ln, ltPl l.1 l.2 = true
  nd : (endsL n.ln).Nodup
theorem OkN.rules {n : Net} (h : OkN n) {k : Nat} : ∀ r ∈ rulesAt n k, OkR n.w (doorsAt n k) r := by
  intro r hr
  unfold rulesAt doorsAt at *
  by_cases hk : k < n.sw.length
  · simp [hk] at hr ⊢
    exact (h.d _ (List.getElem_mem hk)).2.2.2 r hr
  · simp [hk] at hr
theorem OkN.dle {n : Net} (h : OkN n) {k : Nat} : doorsAt n k ≤ 6 := by
  unfold doorsAt
  by_cases hk : k < n.sw.length
  · simp [hk]
    exact (h.d _ (List.getElem_mem hk)).2.1
  · simp [hk]
theorem mem_allPl {n : Net} {p : Pl} : p ∈ allPl n.sw ↔ OkPl n p := by
  unfold allPl
  rw [List.mem_flatMap]
  constructor
  · rintro ⟨⟨s, i⟩, hs, hp⟩
    rw [List.mem_zipIdx_iff_getElem?] at hs
    simp at hp
    obtain ⟨d, hd, rfl⟩ := hp
    have hi : i < n.sw.length := by
      refine Nat.lt_of_not_le fun z => ?_
      rw [List.getElem?_eq_none z] at hs
      cases hs
    refine ⟨hi, ?_⟩
    unfold doorsAt
    simp only at hs
    simp [List.getD, hs]
    exact hd
  · rintro ⟨h1, h2⟩
    refine ⟨(n.sw[p.1], p.1), by rw [List.mem_zipIdx_iff_getElem?]; simp [h1], ?_⟩
    simp
    refine ⟨p.2, ?_, rfl⟩
    unfold doorsAt at h2
    simpa [h1] using h2
theorem nodup_flat {α β : Type} (f : α → List β) : ∀ xs : List α, (∀ x ∈ xs, (f x).Nodup) → xs.Pairwise (fun a b => ∀ x ∈ f a, ∀ y ∈ f b, x ≠ y) → (xs.flatMap f).Nodup
  | [], _, _ => List.nodup_nil
  | x :: xs, h, hp => by
    rw [List.flatMap_cons, List.nodup_append]
    have hp := List.pairwise_cons.mp hp
    refine ⟨h x (List.mem_cons_self ..), nodup_flat f xs (fun y hy => h y (List.mem_cons_of_mem _ hy)) hp.2, ?_⟩
    intro a ha b hb
    obtain ⟨y, hy, hb⟩ := List.mem_flatMap.mp hb
    exact hp.1 y hy a ha b hb
theorem nodup_mapI {α β : Type} {f : α → β} (hf : ∀ a b, f a = f b → a = b) : ∀ {xs : List α}, xs.Nodup → (xs.map f).Nodup
  | [], _ => List.nodup_nil
  | x :: xs, h => by
    rw [List.map_cons, List.nodup_cons]
    have h := List.nodup_cons.mp h
    refine ⟨fun m => ?_, nodup_mapI hf h.2⟩
    obtain ⟨y, hy, e⟩ := List.mem_map.mp m
    cases hf y x e
    exact h.1 hy
theorem nodup_allPl (ss : List (Nat × List Rule)) : (allPl ss).Nodup := by
  refine nodup_flat _ _ (fun s _ => nodup_mapI (fun a b e => (Prod.mk.inj e).2) List.nodup_range) ?_
  have : (ss.zipIdx).Pairwise fun a b => a.2 ≠ b.2 := by
    rw [List.pairwise_iff_getElem]
    intro i j hi hj hij
    simp
    omega
  refine this.imp ?_
  intro a b hab x hx y hy e
  simp at hx hy
  obtain ⟨d, _, rfl⟩ := hx
  obtain ⟨d', _, rfl⟩ := hy
  exact hab (congrArg Prod.fst e)
end My

namespace My
open PySem L2 DL
variable {X : Xc → DL.Env → Prop}
def isiOk : D → Bool
  | .scr _ => false
  | .dT false _ _ => false
  | .dN _ _ _ => false
  | .exc _ _ _ => false
  | .any => false
  | _ => true
def isWholeD : D → Bool
  | .int _ => true
  | _ => false
def belowD (d : D) (n : Int) : Bool := match d with
  | .int i => decide (0 ≤ i) && decide (i < n)
  | _ => false
theorem whole_eq {d : D} (h : isiOk (frz d) = true) : m_is_whole [d] = .ok (.bl (isWholeD d)) := by
  refine WO.eq ?_
  unfold m_is_whole
  rw [WO_runP (by rfl)]
  unfold g_is_whole
  cases d with
  | dT b ks xs => simp [isiOk] at h
  | _ => first | (simp [isWholeD]; done) | (simp [isiOk] at h)
theorem below_eq {d : D} {n : Int} (h : isiOk (frz d) = true) (hf : frz (frz d) = frz d) : m_is_below [d, .int n] = .ok (.bl (belowD d n)) := by
  refine WO.eq ?_
  unfold m_is_below
  rw [WO_runP (by rfl)]
  unfold g_is_below
  simp
  rw [whole_eq (by rw [hf]; exact h)]
  cases d with
  | int i => by_cases h0 : 0 ≤ i <;> simp [isWholeD, belowD, h0]
  | any => simp [isiOk] at h
  | _ => simp [isWholeD, belowD]
def placeD (ds : List Nat) : D → Bool
  | .tup [.int i, .int j] => decide (0 ≤ i) && decide (i < ds.length) && decide (0 ≤ j) && decide (j < (ds.getD i.toNat 0 : Nat))
  | _ => false
theorem placeD_pl {ds : List Nat} {p : Pl} : placeD ds (ePl p) = (decide (p.1 < ds.length) && decide (p.2 < ds.getD p.1 0)) := by
  simp [placeD, ePl]
theorem frz_idem : ∀ d : D, frz (frz d) = frz d := by
  have key : ∀ n : Nat, ∀ d : D, sizeOf d ≤ n → frz (frz d) = frz d := by
    intro n
    induction n with
    | zero => intro d h; cases d <;> simp at h
    | succ n ih =>
      have ihs : ∀ xs : List D, sizeOf xs ≤ n → frzs (frzs xs) = frzs xs := by
        intro xs h
        rw [frzs_map, frzs_map, List.map_map]
        refine List.map_congr_left fun x hx => ih x ?_
        have := List.sizeOf_lt_of_mem hx
        omega
      intro d h
      cases d <;> simp only [frz] <;> first | rfl | skip
      all_goals (simp at h; rw [ihs _ (by omega)])
  exact fun d => key _ d (Nat.le_refl _)
theorem place_eq {ss : List (Nat × List Rule)} {d : D} (h : ∀ xs, frz d = .tup xs → ∀ x ∈ xs, isiOk x = true) (hi : isiOk (frz d) = true) (hl : ss.length ≤ 1000) : m_is_place [.lst false (ss.map eSw), frz d] = .ok (.bl (placeD (ss.map (·.1)) (frz d))) := by
  refine WO.eq ?_
  unfold m_is_place
  rw [WO_runP (by rfl)]
  unfold g_is_place
  generalize hd : frz d = d'
  have hdd : frz d' = d' := by rw [← hd]; exact frz_idem d
  rw [hd] at h hi
  cases d' with
  | tup xs =>
    have hxs : frzs xs = xs := by simpa using hdd
    simp [hxs]
    by_cases h2 : xs.length = 2
    · match xs, h2 with
      | [x, y], _ =>
        have hx := h _ rfl x (by simp)
        have hy := h _ rfl y (by simp)
        simp at hxs
        obtain ⟨fx, fy⟩ := hxs
        simp [eqD]
        rw [below_eq (by rw [fx]; exact hx) (frz_idem x)]
        cases x with
        | int i =>
          simp [belowD]
          by_cases h0 : 0 ≤ i
          · by_cases h1 : i < ss.length
            · simp [h0, h1]
              rw [atI_get h0 (by simpa using h1)]
              simp [eSw]
              rw [below_eq (by rw [fy]; exact hy) (frz_idem y)]
              simp
              cases y <;> simp [belowD, placeD, h0, h1, show i.toNat < ss.length by omega]
            · simp [h0, h1, placeD]
              cases y <;> simp [placeD, h0, h1]
          · simp [h0]
            cases y <;> simp [placeD, h0]
        | any => simp [isiOk] at hx
        | _ => simp [belowD, placeD]
    · have : (placeD (ss.map (·.1)) (.tup xs)) = false := by
        unfold placeD
        split
        · rename_i heq
          cases heq
          simp at h2
        · rfl
      rw [this]
      have h3 : ¬ (xs.length : Int) = 2 := by omega
      simp [eqD, h3]
  | dT b ks xs => cases b <;> simp [isiOk] at hi hdd
  | _ => first | (simp [placeD]; done) | (simp [isiOk] at hi)
end My

namespace My
open PySem L2 DL
variable {X : Xc → DL.Env → Prop}
def isOfB (d : D) (w : Int) (ss : List Nat) : Bool := match d with
  | .str cs => decide ((cs.length : Int) = w) && cs.all fun c => decide (c ∈ ss)
  | _ => false
def shortT (d : D) : Prop := ∀ cs, d = .str cs → cs.length ≤ 1000
theorem isOf_eq {d : D} {w : Int} {ss : List Nat} (hi : isiOk (frz d) = true) (hl : shortT d) : m_is_of [d, .int w, .str ss] = .ok (.bl (isOfB d w ss)) := by
  refine WO.eq ?_
  unfold m_is_of
  rw [WO_runP (by rfl)]
  unfold g_is_of
  cases d with
  | str cs =>
    have hl := hl cs rfl
    simp [isOfB]
    refine ⟨by omega, ?_⟩
    by_cases e : (cs.length : Int) = w
    · simp [e]
      refine WO_cLcM (fun c : Nat => .str [c]) (fun c => .bl (ss.contains c)) cs (by simp) (by omega) ?_ ?_
      · intro c hc
        simp
      · simp
    · simp [e]
  | dT b ks xs => simp [isiOk] at hi
  | _ => first | (simp [isOfB]; done) | (simp [isiOk] at hi)
theorem pattern_eq {d : D} {w : Int} (hi : isiOk (frz d) = true) (hl : shortT d) (hf : frz d = d) : m_is_pattern [d, .int w] = .ok (.bl (isOfB d w [48, 49, 42])) := by
  refine WO.eq ?_
  unfold m_is_pattern
  rw [WO_runP (by rfl)]
  unfold g_is_pattern
  simp [hf, isOf_eq hi hl]
theorem isOf_pat {h : List Nat} {w : Nat} (hl : h.length = w) (hh : IsP h) : isOfB (.str h) w [48, 49, 42] = true := by
  simp [isOfB, hl]
  intro c hc
  exact hh c hc
end My

namespace My
open PySem L2 DL
variable {X : Xc → DL.Env → Prop}
end My

namespace My
open PySem L2 DL
variable {X : Xc → DL.Env → Prop}
theorem doors_map {n : Net} {k : Nat} : (n.sw.map (·.1)).getD k 0 = doorsAt n k := by
  unfold doorsAt
  by_cases h : k < n.sw.length <;> simp [h]
theorem placeD_ok {n : Net} {p : Pl} : placeD (n.sw.map (·.1)) (ePl p) = decide (OkPl n p) := by
  rw [placeD_pl, doors_map]
  by_cases h : OkPl n p
  · rw [decide_eq_true h]; simp [h.1, h.2]
  · rw [decide_eq_false h]
    simp
    intro h1
    exact Nat.le_of_not_lt fun h2 => h ⟨h1, h2⟩
theorem place_pl {n : Net} {p : Pl} (hn : OkN n) : m_is_place [.lst false (n.sw.map eSw), ePl p] = .ok (.bl (decide (OkPl n p))) := by
  have h1 := hn.s1
  have := place_eq (ss := n.sw) (d := ePl p) (fun xs h x hx => by
    simp [ePl] at h
    subst h
    simp at hx
    rcases hx with rfl | rfl <;> rfl) rfl (by omega)
  rw [frz_ePl, placeD_ok] at this
  exact this
end My

namespace My
open PySem L2 DL
variable {X : Xc → DL.Env → Prop}
theorem lpattern_spec {p : D} {w : Nat} (hp : Pool p) (h1 : w ≤ 16) {P : D × D → Prop} (h : ∀ (cs : List Nat) (q : D), cs.length = w → IsP cs → Pool q → P (.str cs, q)) : WO' X (m__law_pattern [p, .int w]) P := by
  refine WO'.up ?_
  unfold m__law_pattern
  rw [WO_runX (by rfl)]
  unfold g__law_pattern
  refine WS_step fun K hK => ?_
  simp
  refine take_spec hp (by omega) (by omega) fun x p h3 hp => ?_
  obtain ⟨a, e, hm⟩ := WO_at (xs := [D.str [48, 49, 42], D.str [42, 42, 42, 48, 49], D.str [48, 42], D.str [49, 42]]) (Int.natCast_nonneg x) h3
  have ha : ∃ u, a = .str u ∧ IsP u ∧ 0 < u.length ∧ u.length ≤ 1000 := by
    simp only [List.mem_cons, List.not_mem_nil, or_false] at hm
    rcases hm with rfl | rfl | rfl | rfl <;> refine ⟨_, rfl, ?_, by decide, by decide⟩ <;> intro c hc <;> simp at hc <;> omega
  obtain ⟨u, rfl, hu, hu1, hu2⟩ := ha
  simp [e]
  refine hK _ ?_
  simp
  refine text_spec hp (by omega) (by omega) hu1 hu2 fun cs q h4 h5 hq => ?_
  simp
  exact h cs q (by omega) (fun c m => hu c (h5 c m)) hq
theorem stars_flat {w : Nat} : (List.replicate w [42]).flatten = List.replicate w 42 := by
  induction w with
  | zero => rfl
  | succ n ih => rw [List.replicate_succ, List.flatten_cons, ih]; rfl
theorem stars_isP {w : Nat} : IsP (List.replicate w 42) := fun c hc => .inr (.inr (List.mem_replicate.mp hc).2)
theorem lrule_spec {p : D} {w d : Nat} (hp : Pool p) (h1 : w ≤ 16) (hd : 0 < d) (hd' : d ≤ 100) {P : D × D → Prop} (h : ∀ (r : Rule) (q : D), OkR w d r → Pool q → P (eRule r, q)) : WO' X (m__law_rule [p, .int w, .int d]) P := by
  refine WO'.up ?_
  unfold m__law_rule
  rw [WO_runX (by rfl)]
  unfold g__law_rule
  refine WS_step fun K hK => ?_
  simp
  refine take_spec hp (by omega) (by omega) fun x p h3 hp => ?_
  simp
  refine take_spec hp (by omega) (by omega) fun y p h4 hp => ?_
  have hdr : ∃ o : Option Nat, (∀ k, o = some k → k < d) ∧ atI [D.non, D.non, D.int x] (y : Int) = some (eO o) := by
    have hy : y < 3 := by omega
    match y, hy with
    | 0, _ => exact ⟨none, fun k e => (nomatch e), rfl⟩
    | 1, _ => exact ⟨none, fun k e => (nomatch e), rfl⟩
    | 2, _ => exact ⟨some x, fun k e => by cases e; omega, rfl⟩
  obtain ⟨o, ho, eo⟩ := hdr
  simp [eo]
  refine hK _ (WS_step fun K hK => ?_)
  simp
  refine hK _ (WS_step fun K hK => ?_)
  simp
  refine take_spec hp (by omega) (by omega) fun z p h5 hp => ?_
  have hz : ∃ m : Nat, m ≤ 3 ∧ atI [D.int 1, D.int 1, D.int 1, D.int 2, D.int 2, D.int 3, D.int 0] (z : Int) = some (.int m) := by
    have hz : z < 7 := by omega
    match z, hz with
    | 0, _ => exact ⟨1, by decide, rfl⟩
    | 1, _ => exact ⟨1, by decide, rfl⟩
    | 2, _ => exact ⟨1, by decide, rfl⟩
    | 3, _ => exact ⟨2, by decide, rfl⟩
    | 4, _ => exact ⟨2, by decide, rfl⟩
    | 5, _ => exact ⟨3, by decide, rfl⟩
    | 6, _ => exact ⟨0, by decide, rfl⟩
  obtain ⟨m, hm, em⟩ := hz
  simp [em]
  refine ⟨by omega, ?_⟩
  rw [rng_map]
  refine for_of _ (fun (ks : List Nat) r => ∃ (os : List (Nat × List Nat)) (q : D) (u v : Option D), os.length + ks.length = m ∧ (∀ o ∈ os, o.1 < d ∧ o.2.length = w ∧ IsP o.2) ∧ Pool q ∧ r = [some q, some (.int w), some (.int d), some (eO o), some (.lst true (os.map eOut)), u, v]) _ ⟨[], p, none, none, by simp, fun _ h => (nomatch h), hp, rfl⟩ ?_ ?_
  · rintro k ks r K ⟨os, q, u, v, hl, hos, hq, rfl⟩ hK
    simp at hl ⊢
    refine ⟨by omega, text_spec hq (by omega) (by omega) (by decide) (by decide) fun cs q h6 h7 hq => ?_⟩
    simp
    refine take_spec hq (by omega) (by omega) fun y q h8 hq => ?_
    have hb : ∃ b : List Nat, b.length = w ∧ IsP b ∧ atI [D.str (List.replicate w 42), D.str cs] (y : Int) = some (.str b) := by
      have hy : y < 2 := by omega
      match y, hy with
      | 0, _ => exact ⟨_, List.length_replicate .., stars_isP, rfl⟩
      | 1, _ => exact ⟨cs, by omega, fun c m => by have := h7 c m; simp at this; omega, rfl⟩
    obtain ⟨b, hb1, hb2, eb⟩ := hb
    simp [eb, stars_flat]
    refine take_spec hq (by omega) (by omega) fun z q h9 hq => ?_
    simp
    refine ⟨by omega, hK _ ⟨os ++ [(z, b)], q, some (.int k), some (.str b), by simp; omega, ?_, hq, by simp [eOut]⟩⟩
    intro o ho
    rcases List.mem_append.mp ho with ho | ho
    · exact hos o ho
    · cases List.mem_singleton.mp ho
      exact ⟨by show z < d; omega, hb1, hb2⟩
  · rintro r ⟨os, q, u, v, hl, hos, hq, rfl⟩
    simp at hl ⊢
    refine hK _ ?_
    simp
    refine lpattern_spec hq h1 fun cs q h6 h7 hq => ?_
    simp
    exact h ⟨o, cs, os⟩ q ⟨ho, h6, h7, by show os.length ≤ 3; omega, hos⟩ hq
def OkSs (w : Nat) (ss : List (Nat × List Rule)) : Prop := ∀ s ∈ ss, 1 ≤ s.1 ∧ s.1 ≤ 3 ∧ s.2.length ≤ 5 ∧ ∀ r ∈ s.2, OkR w s.1 r
theorem ePl_min {a b : Pl} (h : a ≠ b) : WO' X (gMnD [ePl a, ePl b]) (fun d => d = ePl (if ltPl b a = true then b else a)) := by
  rw [WO_gPick]
  refine ⟨ordOk2_pair _ _ _ _, ?_⟩
  have : ltD (ePl b) (ePl a) = ltPl b a := by
    simp only [ePl, ltD_pair, ltPl]
    rw [Bool.eq_iff_iff]; simp; omega
  rw [this]
  split <;> rfl
theorem ePl_max {a b : Pl} (h : a ≠ b) : WO' X (gMxD [ePl a, ePl b]) (fun d => d = ePl (if ltPl b a = true then a else b)) := by
  rw [WO_gPick]
  refine ⟨ordOk2_pair _ _ _ _, ?_⟩
  have : ltD (ePl a) (ePl b) = ltPl a b := by
    simp only [ePl, ltD_pair, ltPl]
    rw [Bool.eq_iff_iff]; simp; omega
  rw [this]
  rcases ltPl_or h with ⟨h1, h2⟩ | ⟨h1, h2⟩ <;> simp [h1, h2]
theorem sum_le {α : Type} {f : α → Nat} {k : Nat} : ∀ {xs : List α}, (∀ x ∈ xs, f x ≤ k) → (xs.map f).sum ≤ xs.length * k
  | [], _ => by simp
  | x :: xs, h => by
    have h1 := h x (List.mem_cons_self ..)
    have h2 := sum_le (xs := xs) fun y hy => h y (List.mem_cons_of_mem _ hy)
    rw [List.map_cons, List.sum_cons, List.length_cons, Nat.succ_mul]
    omega
theorem mem_zip_ss {ss : List (Nat × List Rule)} {a : (Nat × List Rule) × Nat} (h : a ∈ ss.zipIdx) : a.1 ∈ ss := (List.mem_zipIdx h).2.2 ▸ List.getElem_mem _
theorem allPl_len {w : Nat} {ss : List (Nat × List Rule)} (h : OkSs w ss) : (allPl ss).length ≤ ss.length * 3 := by
  unfold allPl
  rw [List.length_flatMap]
  have := sum_le (f := fun s : (Nat × List Rule) × Nat => s.1.1) (k := 3) (xs := ss.zipIdx) fun a ha => (h _ (mem_zip_ss ha)).2.1
  simpa using this
theorem er_map {α β : Type} (f : α → β) : ∀ (xs : List α) (k : Nat), (xs.map f).eraseIdx k = (xs.eraseIdx k).map f
  | [], k => by cases k <;> rfl
  | x :: xs, 0 => rfl
  | x :: xs, k + 1 => by
    show f x :: (xs.map f).eraseIdx k = f x :: (xs.eraseIdx k).map f
    rw [er_map f xs k]
theorem er_len {α : Type} {xs : List α} {k : Nat} (h : k < xs.length) : (xs.eraseIdx k).length = xs.length - 1 := by
  rw [List.length_eraseIdx, if_pos h]
theorem perm_er {α : Type} : ∀ {xs : List α} {k : Nat} (h : k < xs.length), (xs[k] :: xs.eraseIdx k).Perm xs
  | x :: xs, 0, _ => List.Perm.refl _
  | x :: xs, k + 1, h => by
    show (xs[k]'(by simpa using h) :: x :: xs.eraseIdx k).Perm (x :: xs)
    exact (List.Perm.swap ..).trans ((perm_er (xs := xs) (by simpa using h)).cons x)
theorem endsL_app {ls : List (Pl × Pl)} {l : Pl × Pl} : endsL (ls ++ [l]) = endsL ls ++ [l.1, l.2] := by simp [endsL]
theorem lnet_spec {p : D} {w most : Nat} (hp : Pool p) (h0 : 1 ≤ w) (h1 : w ≤ 16) (hm : 0 < most) (hm' : most ≤ 8) {P : D × D → Prop} (h : ∀ (n : Net) (q : D), OkN n → n.w = w → OkSs w n.sw → n.sw.length ≤ most → Pool q → P (eNet n, q)) : WO' X (m__law_net [p, .int w, .int most]) P := by
  refine WO'.up ?_
  unfold m__law_net
  rw [WO_runX (by rfl)]
  unfold g__law_net
  refine WS_step fun K hK => ?_
  simp
  refine hK _ (WS_step fun K hK => ?_)
  simp
  refine take_spec hp (by omega) (by omega) fun x p h3 hp => ?_
  simp
  refine ⟨by omega, ?_⟩
  rw [show ((1 : Int) + x).toNat = 1 + x by omega, rng_map]
  refine for_of _ (fun (ks : List Nat) r => ∃ (ss : List (Nat × List Rule)) (q : D) (t7 t8 t12 : Option D) (t4 : Option D), ss.length + ks.length = 1 + x ∧ OkSs w ss ∧ Pool q ∧ r = [some q, some (.int w), some (.int most), some (.lst true (ss.map eSw)), t4, none, none, t7, t8, none, none, none, t12, none]) _ ⟨[], p, none, none, none, none, by simp, fun _ h => (nomatch h), hp, rfl⟩ ?_ ?_
  · rintro k ks r K ⟨ss, q, t7, t8, t12, t4, hl, hss, hq, rfl⟩ hK
    have hlen : ss.length + (ks.length + 1) = 1 + x := hl
    simp only [sN_eq, List.length_cons, List.length_nil]
    rw [if_pos (by decide), WO_ok]
    refine WT_step fun K1 hK1 => ?_
    simp
    refine take_spec hq (by omega) (by omega) fun y q h4 hq => ?_
    obtain ⟨d, hd⟩ : ∃ d : Nat, (1 + y : Int) = d := ⟨1 + y, by omega⟩
    simp [hd]
    refine hK1 _ (WT_step fun K1 hK1 => ?_)
    simp
    refine WO_xLc (fun acc ds r => ∃ (rs : List Rule) (q : D) (t : Option D), acc = rs.map eRule ∧ rs.length + ds.length ≤ 4 ∧ (∀ r ∈ rs, OkR w d r) ∧ Pool q ∧ r = [some q, some (.int w), some (.int most), some (.lst true (ss.map eSw)), some (.int k), none, none, some (.int d), t8, none, none, none, t, none]) ?_ ?_ ?_
    · simp
      refine take_spec hq (by omega) (by omega) fun y q h5 hq => ?_
      simp
      exact ⟨by omega, by omega, hq⟩
    · rintro acc e ds r ⟨rs, q, t, rfl, hl, hrs, hq, rfl⟩
      simp at hl ⊢
      refine lrule_spec hq h1 (by omega) (by omega) fun r q hr hq => ?_
      simp
      refine ⟨rs ++ [r], by simp, by simp; omega, ?_, hq⟩
      intro r' hr'
      rcases List.mem_append.mp hr' with h | h
      · exact hrs r' h
      · cases List.mem_singleton.mp h; exact hr
    · rintro ys r ⟨rs, q, t, rfl, hl, hrs, hq, rfl⟩
      simp at hl ⊢
      refine hK1 _ (WT_step fun K2 hK2 => ?_)
      have fin : ∀ (xs : List D) (rs : List Rule) (q : D) (b : Bool), frzs xs = rs.map eRule → rs.length ≤ 5 → (∀ r ∈ rs, OkR w d r) → Pool q → K2 [some q, some (.int w), some (.int most), some (.lst true (ss.map eSw)), some (.int k), none, none, some (.int d), some (.lst b xs), none, none, none, none, none] := by
        intro xs rs q b hx hl' hrs hq
        refine hK2 _ ?_
        simp [hx]
        refine ⟨by omega, hK _ ⟨ss ++ [(d, rs)], q, some (.int d), some (.lst false (rs.map eRule)), none, some (.int k), by simp; omega, ?_, hq, by simp [eSw]⟩⟩
        intro s hs
        rcases List.mem_append.mp hs with h | h
        · exact hss s h
        · cases List.mem_singleton.mp h
          exact ⟨by show 1 ≤ d; omega, by show d ≤ 3; omega, hl', hrs⟩
      simp
      refine take_spec hq (by omega) (by omega) fun y q h6 hq => ?_
      simp
      split
      · refine ⟨by omega, take_spec hq (by omega) (by omega) fun z q h7 hq => ?_⟩
        refine ⟨by omega, by omega, fin _ (rs ++ [⟨none, List.replicate w 42, [(z, List.replicate w 42)]⟩]) q true (by simp; rfl) (by simp; omega) ?_ hq⟩
        intro r hr
        rcases List.mem_append.mp hr with h | h
        · exact hrs r h
        · cases List.mem_singleton.mp h
          refine ⟨fun k e => (nomatch e), List.length_replicate .., stars_isP, by simp, fun o ho => ?_⟩
          cases List.mem_singleton.mp ho
          exact ⟨by show z < d; omega, List.length_replicate .., stars_isP⟩
      · exact fin _ rs q true (by simp) (by omega) hrs hq
  · rintro r ⟨ss, q, t7, t8, t12, t4, hl, hss, hq, rfl⟩
    simp at hl ⊢
    refine hK _ (WS_step fun K hK => ?_)
    simp
    refine hK _ (WS_step fun K hK => ?_)
    have hz : ∀ rs : List (Nat × List Rule), ((rs.map eSw).zipIdx.map fun q => D.tup [.int (q.2 : Nat), q.1]) = rs.zipIdx.map fun q => D.tup [.int (q.2 : Nat), eSw q.1] := by
      intro rs
      rw [List.zipIdx_map, List.map_map]; rfl
    simp [hz]
    refine for_of (fun q : (Nat × List Rule) × Nat => D.tup [.int (q.2 : Nat), eSw q.1]) (fun qs r => ∃ (ds : List ((Nat × List Rule) × Nat)) (t9 t10 t13 : Option D), ss.zipIdx = ds ++ qs ∧ r = [some q, some (.int w), some (.int most), some (.lst false (ss.map eSw)), t4, some (.lst true ((ds.flatMap fun s => (List.range s.1.1).map fun d => (s.2, d)).map ePl)), none, t7, t8, t9, t10, none, t12, t13]) _ ⟨[], none, none, none, rfl, rfl⟩ ?_ ?_
    · rintro ⟨s, i⟩ qs r K ⟨ds, t9, t10, t13, e, rfl⟩ hK
      have hs : s ∈ ss := by
        have : (s, i) ∈ ss.zipIdx := by rw [e]; simp
        exact (List.mem_zipIdx this).2.2 ▸ List.getElem_mem _
      have hd := hss s hs
      simp
      refine WO_cLcM (fun d : Nat => .int d) (fun d => ePl (i, d)) (List.range s.1) ?_ (by simp; omega) ?_ ?_
      · simp [rng_map]; omega
      · intro d hd
        simp [ePl]
      · simp
        have hb := sum_le (f := fun a : (Nat × List Rule) × Nat => a.1.1) (k := 3) (xs := ds) fun a ha => (hss _ (mem_zip_ss (by rw [e]; exact List.mem_append_left _ ha))).2.1
        have hdl : ds.length ≤ ss.length := by
          have := congrArg List.length e
          simp at this
          omega
        refine ⟨by omega, hK _ ⟨ds ++ [(s, i)], some (.int i), some (eSw s), t13, by rw [e]; simp, by simp⟩⟩
    · rintro r ⟨ds, t9, t10, t13, e, rfl⟩
      simp at e
      refine hK _ (WS_step fun K hK => ?_)
      simp
      refine hK _ (WS_step fun K hK => ?_)
      have ha : (ds.flatMap fun s => (List.range s.1.1).map fun d => (s.2, d)) = allPl ss := by rw [← e]; rfl
      rw [ha]
      have hal := allPl_len hss
      refine while_inv (fun m r => ∃ (fs : List Pl) (ls : List (Pl × Pl)) (q : D) (u10 u11 : Option D), m = fs.length ∧ (endsL ls ++ fs).Nodup ∧ (∀ p ∈ fs, p ∈ allPl ss) ∧ (∀ l ∈ ls, (l.1 ∈ allPl ss ∧ l.2 ∈ allPl ss) ∧ ltPl l.1 l.2 = true) ∧ ls.length * 2 + fs.length ≤ (allPl ss).length ∧ Pool q ∧ r = [some q, some (.int w), some (.int most), some (.lst false (ss.map eSw)), t4, some (.lst true (fs.map ePl)), some (.lst true (ls.map eLn)), t7, t8, t9, u10, u11, t12, t13]) ?_ 100000 (allPl ss).length _ (by omega) ⟨allPl ss, [], q, t10, none, rfl, by simpa [endsL] using nodup_allPl ss, fun _ h => h, fun _ h => (nomatch h), by simp, hq, rfl⟩
      rintro m r K ⟨fs, ls, q, u10, u11, rfl, hnd, hfs, hls, hlen, hq, rfl⟩ hK'
      simp
      have last : ∀ q, Pool q → WS' (fun x r => ∃ d0, r[0]? = some (some d0) ∧ XF x [some d0]) (sRet (lift [1, 3, 6] (cTup (aCons (cV 1) (aCons (cV 3) (aCons (cV 6) aNil))))) [some q, some (.int w), some (.int most), some (.lst false (ss.map eSw)), t4, some (.lst true (fs.map ePl)), some (.lst true (ls.map eLn)), t7, t8, t9, u10, u11, t12, t13]) (fun r => ∃ d0, r[0]? = some (some d0) ∧ P (D.non, d0)) fun d r => ∃ d0, r[0]? = some (some d0) ∧ P (d, d0) := by
        intro q hq
        simp
        refine h ⟨w, ss, ls⟩ q ⟨h0, h1, by show 1 ≤ ss.length; omega, by show ss.length ≤ 8; omega, fun s hs => ?_, by show ls.length ≤ 24; omega, fun l hl => ?_, fun l hl => (hls l hl).2, (List.nodup_append.mp hnd).1⟩ rfl hss (by show ss.length ≤ most; omega) hq
        · have := hss s hs
          exact ⟨this.1, by omega, by omega, this.2.2.2⟩
        · exact ⟨mem_allPl.mp (hls l hl).1.1, mem_allPl.mp (hls l hl).1.2⟩
      by_cases hf : 1 < (fs.length : Int)
      · simp [hf]
        refine take_spec hq (by omega) (by omega) fun y q h7 hq => ?_
        simp
        split
        · simp [WO_popAt]
          refine take_spec hq (by omega) (by omega) fun z q hz hq => ?_
          have hz' : z < fs.length := by omega
          simp [ixN_pos (i := (z : Int)) (n := fs.length) (by omega) (by omega), er_map]
          refine ⟨by omega, ePl fs[z], ⟨fs[z].1, fs[z].2, by simp [hz'], rfl⟩, ?_⟩
          have e1 := er_len hz'
          refine take_spec hq (by omega) (by omega) fun y q hy hq => ?_
          have hy' : y < (fs.eraseIdx z).length := by omega
          simp [ixN_pos (i := (y : Int)) (n := (fs.eraseIdx z).length) (by omega) (by omega), er_map]
          refine ⟨by omega, ePl (fs.eraseIdx z)[y], ⟨(fs.eraseIdx z)[y].1, (fs.eraseIdx z)[y].2, by simp [hy'], rfl⟩, ?_⟩
          have pm1 := perm_er hz'
          have pm2 := perm_er hy'
          generalize ga : fs[z] = a at pm1 ⊢
          generalize gb : (fs.eraseIdx z)[y] = b at pm2 ⊢
          have pm : (a :: b :: (fs.eraseIdx z).eraseIdx y).Perm fs := (pm2.cons a).trans pm1
          have hnd' : (endsL ls ++ (a :: b :: (fs.eraseIdx z).eraseIdx y)).Nodup := (List.Perm.nodup_iff (List.Perm.append_left _ pm)).mpr hnd
          have hab : a ≠ b := by
            have := (List.nodup_append.mp hnd').2.1
            simp at this
            exact fun z => this.1.1 z
          have e2 := er_len hy'
          have ma : a ∈ allPl ss := hfs a (pm.mem_iff.mp (by simp))
          have mb : b ∈ allPl ss := hfs b (pm.mem_iff.mp (by simp))
          refine (ePl_min hab).mono ?_
          rintro _ rfl
          refine (ePl_max hab).mono ?_
          rintro _ rfl
          simp
          refine ⟨by omega, hK' ((fs.eraseIdx z).eraseIdx y).length _ (by omega) ⟨_, ls ++ [(if ltPl b a = true then b else a, if ltPl b a = true then a else b)], q, some (ePl a), some (ePl b), rfl, ?_, fun p hp => hfs p (pm.mem_iff.mp (by simp [hp])), ?_, by simp; omega, hq, by simp [eLn]⟩⟩
          · rw [endsL_app, List.append_assoc]
            refine (List.Perm.nodup_iff (List.Perm.append_left _ ?_)).mpr hnd'
            split
            · exact List.Perm.swap ..
            · exact List.Perm.refl _
          · intro l hl
            rcases List.mem_append.mp hl with hl | hl
            · exact hls l hl
            · cases List.mem_singleton.mp hl
              rcases ltPl_or hab with ⟨g1, g2⟩ | ⟨g1, g2⟩ <;> simp [g1, g2, ma, mb]
        · exact hK _ (last q hq)
      · simp [hf]
        refine hK _ (last q hq)
end My

namespace My
open PySem L2 DL
variable {X : Xc → DL.Env → Prop}
theorem bulk_cons {x : D} {xs : List D} : bulkDs (x :: xs) = bulkD x + 1 + bulkDs xs := rfl
theorem bulk_nil : bulkDs [] = 0 := rfl
theorem bulk_lst {b : Bool} {xs : List D} : bulkD (.lst b xs) = bulkDs xs := rfl
theorem bulk_tup {xs : List D} : bulkD (.tup xs) = bulkDs xs := rfl
theorem bulk_int {i : Int} : bulkD (.int i) = 0 := rfl
theorem bulk_str {cs : List Nat} : bulkD (.str cs) = cs.length := rfl
theorem bulk_eO {o : Option Nat} : bulkD (eO o) = 0 := by cases o <;> rfl
theorem bulk_rule {w d : Nat} {r : Rule} (h : OkR w d r) (hw : w ≤ 16) : bulkD (eRule r) ≤ 76 := by
  have h1 := h.pl
  have h2 : bulkDs (r.outs.map eOut) ≤ 3 * (18 + 1) := bulkDs_le (by simpa using h.ol) fun x hx => by
    obtain ⟨o, ho, rfl⟩ := List.mem_map.mp hx
    have := (h.od o ho).2.1
    simp only [eOut, bulk_tup, bulk_cons, bulk_nil, bulk_int, bulk_str]
    omega
  simp only [eRule, bulk_tup, bulk_cons, bulk_nil, bulk_eO, bulk_str, bulk_lst]
  omega
theorem bulk_net {n : Net} (hn : OkN n) : bulkD (eNet n) ≤ 20000 := by
  have h1 : bulkDs (n.sw.map eSw) ≤ 8 * (1542 + 1) := bulkDs_le (by simpa using hn.s1) fun x hx => by
    obtain ⟨s, hs, rfl⟩ := List.mem_map.mp hx
    have hd := hn.d s hs
    have h2 : bulkDs (s.2.map eRule) ≤ 20 * (76 + 1) := bulkDs_le (by simpa using hd.2.2.1) fun y hy => by
      obtain ⟨r, hr, rfl⟩ := List.mem_map.mp hy
      exact bulk_rule (hd.2.2.2 r hr) hn.w1
    simp only [eSw, bulk_tup, bulk_cons, bulk_nil, bulk_int, bulk_lst]
    omega
  have h2 : bulkDs (n.ln.map eLn) ≤ 24 * (6 + 1) := bulkDs_le (by simpa using hn.l1) fun x hx => by
    obtain ⟨l, hl, rfl⟩ := List.mem_map.mp hx
    simp only [eLn, ePl, bulk_tup, bulk_cons, bulk_nil, bulk_int]
    omega
  simp only [eNet, bulk_tup, bulk_cons, bulk_nil, bulk_int, bulk_lst]
  omega
theorem short_cons {x : D} {xs : List D} : shortDs (x :: xs) = (shortD x && shortDs xs) := rfl
theorem short_nil : shortDs [] = true := rfl
theorem short_lst {b : Bool} {xs : List D} : shortD (.lst b xs) = shortDs xs := rfl
theorem short_tup {xs : List D} : shortD (.tup xs) = shortDs xs := rfl
theorem short_nat {k : Nat} (h : k ≤ 1000) : shortD (.int k) = true := by
  show decide (((k : Int)).natAbs < 10 ^ 40) = true
  simp
  exact Nat.lt_of_le_of_lt h (by decide)
theorem short_isP {cs : List Nat} (h : IsP cs) : shortD (.str cs) = true := by
  show (cs.all fun c => decide (c < 1114112)) = true
  rw [List.all_eq_true]
  intro c hc
  have := h c hc
  simp; omega
theorem short_map {α : Type} {f : α → D} {xs : List α} (h : ∀ x ∈ xs, shortD (f x) = true) : shortDs (xs.map f) = true := by
  rw [shortDs_all, List.all_eq_true]
  intro y hy
  obtain ⟨x, hx, rfl⟩ := List.mem_map.mp hy
  exact h x hx
theorem short_pl {n : Net} (hn : OkN n) {p : Pl} (hp : OkPl n p) : shortD (ePl p) = true := by
  have h1 := hn.s1
  have h2 := hp.1
  have h3 := hp.2
  have h4 := hn.dle (k := p.1)
  simp only [ePl, short_tup, short_cons, short_nil, Bool.and_true, Bool.and_eq_true]
  exact ⟨short_nat (by omega), short_nat (by omega)⟩
theorem short_net {n : Net} (hn : OkN n) : shortD (eNet n) = true := by
  have hw := hn.w1
  simp only [eNet, short_tup, short_cons, short_nil, short_lst, Bool.and_true, Bool.and_eq_true]
  refine ⟨short_nat (by omega), short_map fun s hs => ?_, short_map fun l hl => ?_⟩
  · have hd := hn.d s hs
    simp only [eSw, short_tup, short_cons, short_nil, short_lst, Bool.and_true, Bool.and_eq_true]
    refine ⟨short_nat (by omega), short_map fun r hr => ?_⟩
    have hr := hd.2.2.2 r hr
    simp only [eRule, short_tup, short_cons, short_nil, short_lst, Bool.and_true, Bool.and_eq_true]
    refine ⟨?_, short_isP hr.pp, short_map fun o ho => ?_⟩
    · cases e : r.door with
      | none => rfl
      | some k =>
        have := hr.door k e
        exact short_nat (by omega)
    · have := hr.od o ho
      simp only [eOut, short_tup, short_cons, short_nil, Bool.and_true, Bool.and_eq_true]
      exact ⟨short_nat (by omega), short_isP this.2.2⟩
  · have := hn.lp l hl
    simp only [eLn, short_tup, short_cons, short_nil, Bool.and_true, Bool.and_eq_true]
    exact ⟨short_pl hn this.1, short_pl hn this.2⟩
theorem repr_net {n : Net} (hn : OkN n) : gRepr (eNet n) = .ok (.str (reprL (eNet n))) := by
  refine gRepr_ok ?_
  simp only [reprOk, plain_eNet, short_net hn, bulk_net hn, dle_eNet (n := 53), decide_true, Bool.and_true]
end My

namespace My
open PySem L2 DL
theorem cells {ns : List Int} (m : Int) (hm : 1 ≤ m) (hm' : m ≤ 100) : ∀ x : Int, x = (if 1 < if m < (ns.length : Int) then m else (ns.length : Int) then if m < (ns.length : Int) then m else (ns.length : Int) else 1) → 1 ≤ x ∧ x ≤ 100 := by
  intro x hx
  subst hx
  split <;> split at * <;> omega
end My

namespace My
open PySem L2 DL
variable {X : Xc → DL.Env → Prop}
theorem joinTL (s : List Nat) : ∀ xs : List (List Nat), DL.joinL s xs = TL.joinL s xs
  | [] => rfl
  | [x] => by simp [DL.joinL, TL.joinL]
  | x :: y :: xs => by
    have h := joinTL s (y :: xs)
    show x ++ (s ++ y ++ (xs.map fun y => s ++ y).flatten) = x ++ (s ++ TL.joinL s (y :: xs))
    rw [← h, List.append_assoc]
    rfl
theorem spl_rows {c : Nat} {xs : List (List Nat)} (h0 : xs ≠ []) (h : ∀ x ∈ xs, c ∉ x) : TL.spl [c] 0 [] (DL.joinL [c] xs) = xs := by
  rw [joinTL]
  exact TL.spl_join h0 h
theorem join_last (s : List Nat) (x y : List Nat) : ∀ xs : List (List Nat), xs ≠ [] → DL.joinL s [x, y, DL.joinL s xs] = DL.joinL s (x :: y :: xs)
  | [], h => absurd rfl h
  | z :: zs, _ => by simp [DL.joinL]
def wWidth : List Nat := [119, 105, 100, 116, 104]
def wSwitch : List Nat := [115, 119, 105, 116, 99, 104]
def wLink : List Nat := [108, 105, 110, 107]
def plT (p : Pl) : List Nat := DL.joinL [46] [TL.numL p.1, TL.numL p.2]
def outT (o : Nat × List Nat) : List Nat := TL.numL o.1 ++ ([58] ++ o.2)
def doorT : Option Nat → List Nat
  | none => [42]
  | some k => TL.numL k
def outsT (os : List (Nat × List Nat)) : List (List Nat) := if os = [] then [[45]] else os.map outT
def wordsR (r : Rule) : List (List Nat) := doorT r.door :: r.pat :: outsT r.outs
def wordsW (w : Nat) : List (List Nat) := [wWidth, TL.numL w]
def wordsS (d : Nat) : List (List Nat) := [wSwitch, TL.numL d]
def wordsL (l : Pl × Pl) : List (List Nat) := [wLink, plT l.1, plT l.2]
def wordsSw (s : Nat × List Rule) : List (List (List Nat)) := wordsS s.1 :: s.2.map wordsR
def wordsN (n : Net) : List (List (List Nat)) := wordsW n.w :: (n.sw.flatMap wordsSw ++ n.ln.map wordsL)
def rowsN (n : Net) : List (List Nat) := (wordsN n).map (DL.joinL [32])
def textN (n : Net) : List Nat := DL.joinL [10] (rowsN n)
theorem numL_two {n : Nat} (h : n < 100) : (TL.numL n).length ≤ 2 := TL.numL_len (k := 2) (by decide) h
theorem numL_head {n : Nat} (h : n < 100) : TL.numL n = [48] ∨ (TL.numL n).head? ≠ some 48 := by
  by_cases h0 : n < 10
  · rw [TL.numL_lt h0]
    by_cases e : n = 0
    · subst e; exact .inl rfl
    · refine .inr ?_
      simp
      omega
  · rw [TL.numL_step (by omega), TL.numL_lt (n := n / 10) (by omega)]
    refine .inr ?_
    simp
    omega
theorem mem_joinL {c : Nat} {s : List Nat} : ∀ {xs : List (List Nat)}, c ∈ DL.joinL s xs → c ∈ s ∨ ∃ x ∈ xs, c ∈ x
  | [], h => nomatch h
  | x :: xs, h => by
    rcases List.mem_append.mp h with h | h
    · exact .inr ⟨x, List.mem_cons_self .., h⟩
    · obtain ⟨l, hl, hc⟩ := List.mem_flatten.mp h
      obtain ⟨y, hy, rfl⟩ := List.mem_map.mp hl
      rcases List.mem_append.mp hc with hc | hc
      · exact .inl hc
      · exact .inr ⟨y, List.mem_cons_of_mem _ hy, hc⟩
def SgW (x : List Nat) : Prop := ∀ c ∈ x, 42 ≤ c ∧ c < 123
theorem sg_num {n : Nat} : SgW (TL.numL n) := fun c m => by
  have := TL.numL_digits n c m
  omega
theorem sg_pat {p : List Nat} (h : IsP p) : SgW p := fun c m => by
  rcases h c m with h | h | h <;> omega
theorem sg_pl {p : Pl} : SgW (plT p) := fun c m => by
  rcases mem_joinL m with h | ⟨x, hx, h⟩
  · rw [List.mem_singleton.mp h]; omega
  · simp at hx
    rcases hx with rfl | rfl <;> exact sg_num c h
theorem sg_out {o : Nat × List Nat} (h : IsP o.2) : SgW (outT o) := fun c m => by
  unfold outT at m
  rcases List.mem_append.mp m with m | m
  · exact sg_num c m
  · rcases List.mem_append.mp m with m | m
    · rw [List.mem_singleton.mp m]; omega
    · exact sg_pat h c m
theorem sg_rule {w d : Nat} {r : Rule} (h : OkR w d r) : ∀ x ∈ wordsR r, SgW x := by
  intro x hx
  unfold wordsR at hx
  simp only [List.mem_cons] at hx
  rcases hx with rfl | rfl | hx
  · cases hd : r.door with
    | none => intro c m; rw [List.mem_singleton.mp m]; omega
    | some k => exact sg_num
  · exact sg_pat h.pp
  · unfold outsT at hx
    split at hx
    · rw [List.mem_singleton.mp hx]
      intro c m
      rw [List.mem_singleton.mp m]; omega
    · obtain ⟨o, ho, rfl⟩ := List.mem_map.mp hx
      exact sg_out (h.od o ho).2.2
theorem sg_words {n : Net} (h : OkN n) : ∀ ws ∈ wordsN n, ws ≠ [] ∧ ∀ x ∈ ws, SgW x := by
  intro ws hw
  unfold wordsN at hw
  rcases List.mem_cons.mp hw with rfl | hw
  · refine ⟨by simp [wordsW], fun x hx => ?_⟩
    simp [wordsW] at hx
    rcases hx with rfl | rfl
    · intro c m
      simp [wWidth] at m
      omega
    · exact sg_num
  · rcases List.mem_append.mp hw with hw | hw
    · obtain ⟨s, hs, hw⟩ := List.mem_flatMap.mp hw
      rcases List.mem_cons.mp hw with rfl | hw
      · refine ⟨by simp [wordsS], fun x hx => ?_⟩
        simp [wordsS] at hx
        rcases hx with rfl | rfl
        · intro c m
          simp [wSwitch] at m
          omega
        · exact sg_num
      · obtain ⟨r, hr, rfl⟩ := List.mem_map.mp hw
        exact ⟨by simp [wordsR], sg_rule ((h.d s hs).2.2.2 r hr)⟩
    · obtain ⟨l, hl, rfl⟩ := List.mem_map.mp hw
      refine ⟨by simp [wordsL], fun x hx => ?_⟩
      simp [wordsL] at hx
      rcases hx with rfl | rfl | rfl
      · intro c m
        simp [wLink] at m
        omega
      · exact sg_pl
      · exact sg_pl
theorem sg_no {x : List Nat} (h : SgW x) {c : Nat} (hc : c < 42) : c ∉ x := fun m => by
  have := h c m
  omega
theorem spl_row {ws : List (List Nat)} (h0 : ws ≠ []) (h : ∀ x ∈ ws, SgW x) : TL.spl [32] 0 [] (DL.joinL [32] ws) = ws := spl_rows h0 fun x m => sg_no (h x m) (by decide)
theorem row_no {ws : List (List Nat)} (h : ∀ x ∈ ws, SgW x) : 10 ∉ DL.joinL [32] ws := fun m => by
  rcases mem_joinL m with z | ⟨x, hx, z⟩
  · simp at z
  · exact sg_no (h x hx) (by decide) z
theorem spl_text {n : Net} (h : OkN n) : TL.spl [10] 0 [] (textN n) = rowsN n := by
  refine spl_rows (by simp [rowsN, wordsN]) fun x m => ?_
  obtain ⟨ws, hw, rfl⟩ := List.mem_map.mp m
  exact row_no (sg_words h ws hw).2
end My

namespace My
open PySem L2 DL
variable {X : Xc → DL.Env → Prop}
theorem numberof_eq {n : Nat} (h : n < 100) : m_number_of [.str (TL.numL n)] = .ok (.int (n : Nat)) := by
  refine WO.eq ?_
  unfold m_number_of
  rw [WO_runP (by rfl)]
  unfold g_number_of
  have hl := numL_two h
  have hne := TL.numL_ne n
  have hpos : 1 ≤ (TL.numL n).length := List.length_pos_iff.mpr hne
  have hd := TL.numL_digits n
  have hhd := numL_head h
  have hv := TL.numL_val n
  generalize TL.numL n = cs at *
  with_reducible refine WS_step fun K hK => ?_
  have hi : (1 : Int) ≤ (cs.length : Int) := by omega
  have hi2 : (cs.length : Int) ≤ 9 := by omega
  simp [hi, hi2]
  refine ⟨by omega, ?_⟩
  refine WO_cLcM (fun c : Nat => .str [c]) (fun c => .bl ([48, 49, 50, 51, 52, 53, 54, 55, 56, 57].contains c)) cs (by simp) (by omega) (fun c hc => by simp) ?_
  simp
  refine ⟨fun c m => ?_, ?_⟩
  · have := hd c m
    omega
  refine hK _ ?_
  clear hK
  with_reducible refine WS_step fun K hK => ?_
  simp [eqD]
  have fin : K [some (.str cs), none] := by
    refine hK _ ?_
    clear hK
    have hall : (cs.all fun c => decide (48 ≤ c) && decide (c ≤ 57)) = true := by
      rw [List.all_eq_true]
      intro c m
      have := hd c m
      simp
      omega
    simp [gIntS_str hall hne (by omega), hv]
  split
  · exact fin
  · rename_i hn
    exact ⟨hhd.resolve_left hn, fin⟩
theorem issigns_eq {p : List Nat} (h0 : p ≠ []) (hl : p.length ≤ 16) (h : IsP p) : m_is_signs [.str p] = .ok (.bl true) := by
  refine WO.eq ?_
  unfold m_is_signs
  rw [WO_runP (by rfl)]
  unfold g_is_signs
  simp [eqD, h0]
  refine WO_cLcM (fun c : Nat => .str [c]) (fun c => .bl ([48, 49, 42].contains c)) p (by simp) (by omega) (fun c hc => by simp) ?_
  simp
  exact h
theorem placeof_eq {p : Pl} (h1 : p.1 < 100) (h2 : p.2 < 100) : m_place_of [.str (plT p)] = .ok (ePl p) := by
  refine WO.eq ?_
  unfold m_place_of
  rw [WO_runP (by rfl)]
  unfold g_place_of
  have hs : TL.spl [46] 0 [] (plT p) = [TL.numL p.1, TL.numL p.2] := spl_rows (by simp) fun x m => by
    simp at m
    rcases m with rfl | rfl <;> exact TL.numL_free (by decide)
  have hl : (plT p).length ≤ 5 := by
    have := numL_two h1
    have := numL_two h2
    simp [plT, DL.joinL]
    omega
  with_reducible refine WS_step fun K hK => ?_
  simp
  refine WO_cLcM (fun x : Nat => .str (TL.numL x)) (fun x => .int x) [p.1, p.2] (by simp [hs]; omega) (by simp) (fun x m => ?_) ?_
  · have hx : x < 100 := by
      simp at m
      omega
    simp [numberof_eq hx]
  · refine hK _ ?_
    clear hK
    with_reducible refine WS_step fun K hK => ?_
    simp [plainD, inD, eqD]
    refine hK _ ?_
    clear hK
    simp
    exact (rfl : _ = ePl p)
theorem outof_eq {o : Nat × List Nat} (h1 : o.1 < 100) (h0 : o.2 ≠ []) (hl : o.2.length ≤ 16) (h : IsP o.2) : m_out_of [.str (outT o)] = .ok (eOut o) := by
  refine WO.eq ?_
  unfold m_out_of
  rw [WO_runP (by rfl)]
  unfold g_out_of
  have hp : parD (outT o) 58 = .tup [.str (TL.numL o.1), .str [58], .str o.2] := by
    unfold parD outT
    rw [TL.par_part1 (TL.numL_free (by decide))]
    rfl
  have hl2 : (outT o).length ≤ 100 := by
    have := numL_two h1
    simp [outT]
    omega
  with_reducible refine WS_step fun K hK => ?_
  simp [hp]
  refine ⟨by omega, hK _ ?_⟩
  clear hK
  with_reducible refine WS_step fun K hK => ?_
  simp [numberof_eq h1, issigns_eq h0 hl h, gIsN]
  refine hK _ ?_
  clear hK
  simp [numberof_eq h1, eOut]
def eRuleO (r : Rule) : D := .tup [eO r.door, .str r.pat, .lst true (r.outs.map eOut)]
@[simp] theorem frz_eRuleO {r : Rule} : frz (eRuleO r) = eRule r := by simp [eRuleO, eRule]
@[simp] theorem shr_eRuleO {r : Rule} : shr (eRuleO r) = false := by simp [eRuleO]
theorem eqDs_strsT' : ∀ xs ys : List (List Nat), (eqDs (xs.map D.str) (ys.map D.str) = true ↔ xs = ys)
  | [], [] => by simp [eqDs]
  | [], y :: ys => by simp [eqDs]
  | x :: xs, [] => by simp [eqDs]
  | x :: xs, y :: ys => by
    have ih := eqDs_strsT' xs ys
    simp only [List.map_cons, eqDs, Bool.and_eq_true, ih, List.cons.injEq]
    simp [eqD]
theorem eqDs_strsT {xs ys : List (List Nat)} : eqDs (xs.map D.str) (ys.map D.str) = decide (xs = ys) := by
  rw [Bool.eq_iff_iff, eqDs_strsT']
  simp
theorem cut2 {a b : D} {c : List D} : cut (a :: b :: c) (some (2 : Int)) none = c := by
  rw [show (2 : Int) = ((2 : Nat) : Int) from rfl, cut_drop]
  rfl
theorem numberof_star : m_number_of [.str [42]] = .ok .non := by kernel_rfl
theorem ruleof_eq {w d : Nat} {r : Rule} (h : OkR w d r) (hw : 1 ≤ w) (hw2 : w ≤ 16) (hd : d ≤ 6) : m_rule_of [.lst false ((wordsR r).map .str)] = .ok (eRuleO r) := by
  refine WO.eq ?_
  unfold m_rule_of
  rw [WO_runP (by rfl)]
  unfold g_rule_of
  have hpl := h.pl
  have p0 : r.pat ≠ [] := fun e => by rw [e] at hpl; simp at hpl; omega
  have hsg := issigns_eq p0 (by omega) h.pp
  have hol := h.ol
  have hlen : 1 ≤ (outsT r.outs).length ∧ (outsT r.outs).length ≤ 3 := by
    unfold outsT
    split
    · simp
    · rename_i hne
      have := List.length_pos_iff.mpr hne
      simp
      omega
  have hw3 : wordsR r = doorT r.door :: r.pat :: outsT r.outs := rfl
  have hcase : (r.door = none ∧ doorT r.door = [42]) ∨ ∃ k, r.door = some k ∧ doorT r.door = TL.numL k ∧ k < 100 ∧ doorT r.door ≠ [42] := by
    cases hdr : r.door with
    | none => exact .inl ⟨rfl, rfl⟩
    | some k =>
      have := h.door k hdr
      refine .inr ⟨k, rfl, rfl, by omega, fun e => ?_⟩
      have := TL.numL_digits k 42 (by rw [show TL.numL k = [42] from e]; simp)
      omega
  have hnum : m_number_of [.str (doorT r.door)] = .ok (eO r.door) := by
    rcases hcase with ⟨h1, h2⟩ | ⟨k, h1, h2, h3, _⟩
    · rw [h1]; exact numberof_star
    · rw [h2, numberof_eq h3, h1]; rfl
  with_reducible refine WS_step fun K hK => ?_
  simp [hw3, hsg]
  rw [if_neg (by omega)]
  have go : K [some (.lst false (.str (doorT r.door) :: .str r.pat :: (outsT r.outs).map .str)), none, none] := by
    refine hK _ ?_
    clear hK
    with_reducible refine WS_step fun K hK => ?_
    simp
    refine hK _ ?_
    clear hK
    with_reducible refine WS_step fun K hK => ?_
    have eos : eqDs ((outsT r.outs).map fun x => D.str x) [D.str [45]] = decide (outsT r.outs = [[45]]) := eqDs_strsT (ys := [[45]])
    simp [cut2, eos]
    have fin : ∀ d1 : D, d1 = .lst true (r.outs.map eOut) → K [some (.lst false (.str (doorT r.door) :: .str r.pat :: (outsT r.outs).map .str)), some d1, none] := by
      rintro d1 rfl
      refine hK _ ?_
      clear hK
      with_reducible refine WS_step fun K hK => ?_
      have hany : r.outs.any ((fun y => eqD y D.non) ∘ fun x => eOut x) = false := by
        rw [List.any_eq_false]
        intro o _
        exact Bool.false_ne_true
      simp [hany]
      refine hK _ ?_
      clear hK
      simp [hnum]
      refine WO_mv0 rfl ?_
      rcases hcase with ⟨h1, h2⟩ | ⟨k, h1, h2, h3, h4⟩
      · rw [if_pos h2, eRuleO, h1]
        rfl
      · rw [if_neg h4]
        rfl
    by_cases h0 : r.outs = []
    · have e1 : outsT r.outs = [[45]] := by rw [h0]; rfl
      rw [if_pos e1]
      exact fin _ (by rw [h0]; rfl)
    · have e1 : outsT r.outs = r.outs.map outT := by unfold outsT; rw [if_neg h0]
      have e2 : outsT r.outs ≠ [[45]] := fun e => by
        obtain ⟨o, os, ho⟩ : ∃ o os, r.outs = o :: os := by
          cases hr : r.outs with
          | nil => exact absurd hr h0
          | cons o os => exact ⟨o, os, rfl⟩
        rw [e1, ho] at e
        have e3 : outT o = [45] := by
          simp at e
          exact e.1
        obtain ⟨c, cs, hc⟩ : ∃ c cs, TL.numL o.1 = c :: cs := by
          cases hn : TL.numL o.1 with
          | nil => exact absurd hn (TL.numL_ne _)
          | cons c cs => exact ⟨c, cs, rfl⟩
        have hdg := TL.numL_digits o.1 c (by rw [hc]; simp)
        unfold outT at e3
        rw [hc] at e3
        simp at e3
      rw [if_neg e2]
      refine WO_cLcM (fun o => .str (outT o)) eOut r.outs (by simp [cut2, e1, frzs_strs]) (by omega) (fun o m => ?_) ?_
      · have ho := h.od o m
        have hpl2 := ho.2.1
        have hoo := outof_eq (o := o) (by omega) (fun e => by rw [e] at hpl2; simp at hpl2; omega) (by omega) ho.2.2
        simp [hoo]
      · exact fin _ rfl
  split
  · exact go
  · rename_i hne
    rcases hcase with ⟨_, h2⟩ | ⟨k, h1, h2, h3, _⟩
    · exact absurd h2 hne
    · have e4 : eO r.door = .int k := by rw [h1]; rfl
      rw [hnum, e4]
      simp [gIsN]
      exact go
end My

namespace My
open PySem L2 DL
variable {X : Xc → DL.Env → Prop}
theorem lenSum_le {k : Nat} : ∀ {xs : List (List Nat)}, (∀ x ∈ xs, x.length ≤ k) → lenSum xs ≤ xs.length * k
  | [], _ => by simp [lenSum]
  | x :: xs, h => by
    have ih := lenSum_le (xs := xs) fun y m => h y (List.mem_cons_of_mem _ m)
    have := h x (List.mem_cons_self ..)
    show x.length + lenSum xs ≤ _
    rw [List.length_cons, Nat.succ_mul]
    omega
theorem pl_len {p : Pl} (h1 : p.1 < 100) (h2 : p.2 < 100) : (plT p).length ≤ 5 := by
  have := numL_two h1
  have := numL_two h2
  simp [plT, DL.joinL]
  omega
theorem out_len {w d : Nat} {o : Nat × List Nat} (hd : d ≤ 6) (hw : w ≤ 16) (h : o.1 < d ∧ o.2.length = w) : (outT o).length ≤ 19 := by
  have := numL_two (n := o.1) (by omega)
  simp [outT]
  omega
theorem outs_len {w d : Nat} {r : Rule} (hd : d ≤ 6) (hw : w ≤ 16) (h : OkR w d r) : (outsT r.outs).length ≤ 3 ∧ outsT r.outs ≠ [] ∧ ∀ x ∈ outsT r.outs, x.length ≤ 19 := by
  unfold outsT
  split
  · exact ⟨by simp, by simp, fun x m => by rw [List.mem_singleton.mp m]; simp⟩
  · rename_i hne
    refine ⟨by simpa using h.ol, by simpa using hne, fun x m => ?_⟩
    obtain ⟨o, ho, rfl⟩ := List.mem_map.mp m
    exact out_len hd hw ⟨(h.od o ho).1, (h.od o ho).2.1⟩
theorem door_len {w d : Nat} {r : Rule} (hd : d ≤ 6) (h : OkR w d r) : (doorT r.door).length ≤ 2 := by
  cases hr : r.door with
  | none => simp [doorT]
  | some k =>
    have := h.door k hr
    exact numL_two (by omega)
theorem words_len {w d : Nat} {r : Rule} (hd : d ≤ 6) (hw : w ≤ 16) (h : OkR w d r) : (wordsR r).length ≤ 5 ∧ ∀ x ∈ wordsR r, x.length ≤ 19 := by
  obtain ⟨a1, a2, a3⟩ := outs_len hd hw h
  have b := door_len hd h
  have c := h.pl
  refine ⟨by simp [wordsR]; omega, fun x m => ?_⟩
  unfold wordsR at m
  simp only [List.mem_cons] at m
  rcases m with rfl | rfl | m
  · omega
  · omega
  · exact a3 x m
theorem row_len {ws : List (List Nat)} (h1 : ws.length ≤ 5) (h2 : ∀ x ∈ ws, x.length ≤ 19) : (DL.joinL [32] ws).length ≤ 100 := by
  have a := joinL_len [32] ws
  have b := lenSum_le h2
  have c : ws.length * 19 ≤ 5 * 19 := Nat.mul_le_mul_right _ h1
  simp at a
  omega
theorem lspot_eq {p : Pl} (h1 : p.1 < 100) (h2 : p.2 < 100) : m__law_spot [ePl p] = .ok (.str (plT p)) := by
  refine WO.eq ?_
  unfold m__law_spot
  rw [WO_runP (by rfl)]
  unfold g__law_spot
  have a1 := numL_two h1
  have a2 := numL_two h2
  simp [gStr_nat (n := p.1) (by omega), gStr2_nat (n := p.2) (by omega)]
  refine ⟨by omega, by omega, ?_⟩
  simp [plT, DL.joinL]
theorem shownplace_eq {p : Pl} (h1 : p.1 < 100) (h2 : p.2 < 100) : m_shown_place [ePl p] = .ok (.str (plT p)) := by
  refine WO.eq ?_
  unfold m_shown_place
  rw [WO_runP (by rfl)]
  unfold g_shown_place
  have a1 := numL_two h1
  have a2 := numL_two h2
  simp
  refine WO_cLcM (fun x : Nat => .int x) (fun x => .str (TL.numL x)) [p.1, p.2] (by simp [ePl]) (by simp) (fun x m => ?_) ?_
  · have hx : x < 100 := by
      simp at m
      omega
    simp [gStr2_nat (n := x) (by omega)]
  · have e : gJoin (.str [46]) (.lst false ([TL.numL p.1, TL.numL p.2].map .str)) = .ok (.str (DL.joinL [46] [TL.numL p.1, TL.numL p.2])) := gJoin_map (by simp [lenSum]; omega)
    simp only [List.map_cons, List.map_nil] at e
    simp [e, plT]
theorem lrow_eq {w d : Nat} {r : Rule} (hd : d ≤ 6) (hw : w ≤ 16) (h : OkR w d r) : m__law_rule_row [eRule r] = .ok (.str (DL.joinL [32] (wordsR r))) := by
  refine WO.eq ?_
  unfold m__law_rule_row
  rw [WO_runP (by rfl)]
  unfold g__law_rule_row
  obtain ⟨a1, a2⟩ := words_len hd hw h
  have hdt : gStr2 (eO r.door) = .ok (.str (match r.door with | none => [78, 111, 110, 101] | some k => TL.numL k)) := by
    cases hr : r.door with
    | none => rfl
    | some k =>
      have := h.door k hr
      exact gStr2_nat (by omega)
  with_reducible refine WS_step fun K hK => ?_
  simp
  refine hK _ ?_
  clear hK
  with_reducible refine WS_step fun K hK => ?_
  simp [hdt, gIsN_eO]
  have e2 : (if r.door.isSome = true then D.str (match r.door with | none => [78, 111, 110, 101] | some k => TL.numL k) else D.str [42]) = .str (doorT r.door) := by
    cases r.door <;> rfl
  rw [e2]
  refine hK _ ?_
  clear hK
  with_reducible refine WS_step fun K hK => ?_
  have hol := h.ol
  simp
  refine for_of eOut (fun (os : List (Nat × List Nat)) e => ∃ (done : List (Nat × List Nat)) (u v : Option D), r.outs = done ++ os ∧ e = [some (eRule r), some (.lst true ((doorT r.door :: r.pat :: done.map outT).map .str)), some (eO r.door), some (.str r.pat), some (.lst false (r.outs.map eOut)), u, v]) r.outs ⟨[], none, none, by simp, rfl⟩ ?_ ?_
  · rintro o os e K1 ⟨done, u, v, hdo, rfl⟩ hK1
    have ho := h.od o (by rw [hdo]; simp)
    have hn := numL_two (n := o.1) (by omega)
    have hdl : done.length ≤ 3 := by
      have := congrArg List.length hdo
      simp at this
      omega
    simp [gStr_nat (n := o.1) (by omega)]
    refine ⟨by omega, by omega, by omega, ?_⟩
    refine hK1 _ ⟨done ++ [o], some (.int o.1), some (.str o.2), by rw [hdo]; simp, ?_⟩
    simp [outT]
  · rintro e ⟨done, u, v, hdo, rfl⟩
    rw [List.append_nil] at hdo
    subst hdo
    refine hK _ ?_
    clear hK
    have bw := lenSum_le a2
    have eJ : gJoin (.str [32]) (.lst false ((wordsR r).map .str)) = .ok (.str (DL.joinL [32] (wordsR r))) := gJoin_map (by
      have : (wordsR r).length * 19 ≤ 5 * 19 := Nat.mul_le_mul_right _ a1
      simp
      omega)
    by_cases h0 : r.outs = []
    · simp only [wordsR, outsT, h0, if_true, List.map_cons, List.map_nil] at eJ ⊢
      simp [eJ]
    · simp only [wordsR, outsT, h0, if_false, List.map_cons, List.map_map] at eJ ⊢
      simp [h0]
      refine ⟨by omega, ?_⟩
      have eJ' : gJoin (.str [32]) (.lst false (.str (doorT r.door) :: .str r.pat :: r.outs.map fun x => .str (outT x))) = .ok (.str (DL.joinL [32] (doorT r.door :: r.pat :: r.outs.map outT))) := eJ
      rw [eJ']
      rfl
theorem shownouts_eq {w d : Nat} {r : Rule} (hd : d ≤ 6) (hw : w ≤ 16) (h : OkR w d r) : m_shown_outs [.lst false (r.outs.map eOut)] = .ok (.str (DL.joinL [32] (outsT r.outs))) := by
  refine WO.eq ?_
  unfold m_shown_outs
  rw [WO_runP (by rfl)]
  unfold g_shown_outs
  obtain ⟨a1, a2, a3⟩ := outs_len hd hw h
  have hol := h.ol
  simp
  refine WO_cLcM eOut (fun o => .str (outT o)) r.outs (by simp) (by omega) (fun o m => ?_) ?_
  · have hn := numL_two (n := o.1) (by have := (h.od o m).1; omega)
    have h2 := (h.od o m).2.1
    have h1 := (h.od o m).1
    simp [gStr_nat (n := o.1) (by omega)]
    refine ⟨by omega, by omega, ?_⟩
    simp [outT]
  · have e : gJoin (.str [32]) (.lst false ((r.outs.map outT).map .str)) = .ok (.str (DL.joinL [32] (r.outs.map outT))) := gJoin_map (by
      have b := lenSum_le (k := 19) (xs := r.outs.map outT) fun x m => by
        obtain ⟨o, ho, rfl⟩ := List.mem_map.mp m
        exact out_len hd hw ⟨(h.od o ho).1, (h.od o ho).2.1⟩
      simp at b ⊢
      omega)
    have b2 := joinL_len [32] (r.outs.map outT)
    have b := lenSum_le (k := 19) (xs := r.outs.map outT) fun x m => by
      obtain ⟨o, ho, rfl⟩ := List.mem_map.mp m
      exact out_len hd hw ⟨(h.od o ho).1, (h.od o ho).2.1⟩
    rw [List.map_map] at e
    have e' : gJoin (.str [32]) (.lst false (r.outs.map fun o => D.str (outT o))) = .ok (.str (DL.joinL [32] (r.outs.map outT))) := e
    simp [e']
    simp at b b2
    refine ⟨by omega, ?_⟩
    by_cases h0 : r.outs = []
    · simp [h0, outsT, DL.joinL]
    · obtain ⟨o, os, ho⟩ : ∃ o os, r.outs = o :: os := by
        cases hr : r.outs with
        | nil => exact absurd hr h0
        | cons o os => exact ⟨o, os, rfl⟩
      have hne : DL.joinL [32] (r.outs.map outT) ≠ [] := by
        rw [ho]
        simp [DL.joinL, outT]
      rw [if_neg hne]
      simp [outsT, h0]
theorem shownrule_eq {w d : Nat} {r : Rule} (hd : d ≤ 6) (hw : w ≤ 16) (h : OkR w d r) : m_shown_rule [eRule r] = .ok (.str (DL.joinL [32] (wordsR r))) := by
  refine WO.eq ?_
  unfold m_shown_rule
  rw [WO_runP (by rfl)]
  unfold g_shown_rule
  obtain ⟨a1, a2, a3⟩ := outs_len hd hw h
  have hdt : gStr2 (eO r.door) = .ok (.str (match r.door with | none => [78, 111, 110, 101] | some k => TL.numL k)) := by
    cases hr : r.door with
    | none => rfl
    | some k =>
      have := h.door k hr
      exact gStr2_nat (by omega)
  have e2 : (if r.door.isSome = true then D.str (match r.door with | none => [78, 111, 110, 101] | some k => TL.numL k) else D.str [42]) = .str (doorT r.door) := by
    cases r.door <;> rfl
  with_reducible refine WS_step fun K hK => ?_
  simp
  refine hK _ ?_
  clear hK
  simp [hdt, gIsN_eO, e2, shownouts_eq hd hw h]
  have hl := h.pl
  have hdl := door_len hd h
  have b2 := joinL_len [32] (outsT r.outs)
  have b := lenSum_le a3
  simp at b2
  have e : gJoin (.str [32]) (.lst false ([doorT r.door, r.pat, DL.joinL [32] (outsT r.outs)].map .str)) = .ok (.str (DL.joinL [32] [doorT r.door, r.pat, DL.joinL [32] (outsT r.outs)])) := gJoin_map (by
    simp [lenSum]
    omega)
  simp only [List.map_cons, List.map_nil] at e
  rw [e]
  show _ = _
  rw [join_last [32] _ _ _ a2]
  rfl
end My

namespace My
open PySem L2 DL
variable {X : Xc → DL.Env → Prop}
abbrev rowOf (ws : List (List Nat)) : List Nat := DL.joinL [32] ws
theorem rows_cnt {n : Net} (hn : OkN n) : ∀ {xs : List (Nat × List Rule)}, (∀ s ∈ xs, s ∈ n.sw) → (xs.flatMap wordsSw).length ≤ xs.length * 21
  | [], _ => by simp
  | s :: xs, h => by
    have ih := rows_cnt hn (xs := xs) fun s m => h s (List.mem_cons_of_mem _ m)
    have := (hn.d s (h s (List.mem_cons_self ..))).2.2.1
    simp only [List.flatMap_cons, List.length_append, List.length_cons, wordsSw, List.length_map] at ih ⊢
    omega
theorem words_all {n : Net} (hn : OkN n) : ∀ ws ∈ wordsN n, (rowOf ws).length ≤ 100 := by
  intro ws hw
  unfold wordsN at hw
  have hw1 := hn.w1
  have hs1 := hn.s1
  rcases List.mem_cons.mp hw with rfl | hw
  · refine row_len (by simp [wordsW]) fun x m => ?_
    have := numL_two (n := n.w) (by omega)
    simp [wordsW] at m
    rcases m with rfl | rfl
    · simp [wWidth]
    · omega
  · rcases List.mem_append.mp hw with hw | hw
    · obtain ⟨s, hs, hw⟩ := List.mem_flatMap.mp hw
      obtain ⟨d1, d2, d3, d4⟩ := hn.d s hs
      rcases List.mem_cons.mp hw with rfl | hw
      · refine row_len (by simp [wordsS]) fun x m => ?_
        have := numL_two (n := s.1) (by omega)
        simp [wordsS] at m
        rcases m with rfl | rfl
        · simp [wSwitch]
        · omega
      · obtain ⟨r, hr, rfl⟩ := List.mem_map.mp hw
        obtain ⟨a1, a2⟩ := words_len d2 hw1 (d4 r hr)
        exact row_len a1 a2
    · obtain ⟨l, hl, rfl⟩ := List.mem_map.mp hw
      obtain ⟨p1, p2⟩ := hn.lp l hl
      have e1 := hn.dle (k := l.1.1)
      have e2 := hn.dle (k := l.2.1)
      have q1 := p1.1
      have q2 := p1.2
      have q3 := p2.1
      have q4 := p2.2
      refine row_len (by simp [wordsL]) fun x m => ?_
      have b1 := pl_len (p := l.1) (by omega) (by omega)
      have b2 := pl_len (p := l.2) (by omega) (by omega)
      simp [wordsL] at m
      rcases m with rfl | rfl | rfl
      · simp [wLink]
      · omega
      · omega
theorem cnt_rows {n : Net} (hn : OkN n) : (rowsN n).length ≤ 200 := by
  have h1 := rows_cnt hn (xs := n.sw) fun s m => m
  have h2 := hn.s1
  have h3 := hn.l1
  have h4 : n.sw.length * 21 ≤ 8 * 21 := Nat.mul_le_mul_right _ h2
  simp only [rowsN, wordsN, List.length_map, List.length_cons, List.length_append] at h1 ⊢
  omega
theorem join_text {n : Net} (hn : OkN n) {b : Bool} : gJoin (.str [10]) (.lst b ((rowsN n).map .str)) = .ok (.str (textN n)) := gJoin_map (by
  have h1 := cnt_rows hn
  have h2 := lenSum_le (k := 100) (xs := rowsN n) fun x m => by
    obtain ⟨ws, hw, rfl⟩ := List.mem_map.mp m
    exact words_all hn ws hw
  simp
  omega)
theorem text_len {n : Net} (hn : OkN n) : (textN n).length ≤ 30000 := by
  have h1 := cnt_rows hn
  have h2 := lenSum_le (k := 100) (xs := rowsN n) fun x m => by
    obtain ⟨ws, hw, rfl⟩ := List.mem_map.mp m
    exact words_all hn ws hw
  have h3 := joinL_len [10] (rowsN n)
  simp at h3
  unfold textN
  omega
def rowsD (w : Nat) (ss : List (Nat × List Rule)) (ls : List (Pl × Pl)) : List (List Nat) := (wordsW w :: (ss.flatMap wordsSw ++ ls.map wordsL)).map rowOf
theorem row_w {w : Nat} : 119 :: 105 :: 100 :: 116 :: 104 :: 32 :: TL.numL w = rowOf (wordsW w) := by simp [rowOf, wordsW, wWidth, DL.joinL]
theorem row_s {w : Nat} : 115 :: 119 :: 105 :: 116 :: 99 :: 104 :: 32 :: TL.numL w = rowOf (wordsS w) := by simp [rowOf, wordsS, wSwitch, DL.joinL]
theorem row_l {l : Pl × Pl} : 108 :: 105 :: 110 :: 107 :: 32 :: (plT l.1 ++ 32 :: plT l.2) = rowOf (wordsL l) := by simp [rowOf, wordsL, wLink, DL.joinL]
theorem rowsD_s {w : Nat} {ss : List (Nat × List Rule)} {s : Nat × List Rule} : rowsD w (ss ++ [s]) [] = rowsD w ss [] ++ rowOf (wordsS s.1) :: s.2.map fun r => rowOf (wordsR r) := by
  simp [rowsD, wordsSw]
theorem rowsD_l {w : Nat} {ss : List (Nat × List Rule)} {ls : List (Pl × Pl)} {l : Pl × Pl} : rowsD w ss (ls ++ [l]) = rowsD w ss ls ++ [rowOf (wordsL l)] := by
  simp [rowsD]
theorem rowsD_len {n : Net} (hn : OkN n) {ss : List (Nat × List Rule)} {ls : List (Pl × Pl)} (h1 : ∀ s ∈ ss, s ∈ n.sw) (h2 : ss.length ≤ 8) (h3 : ls.length ≤ 24) : (rowsD n.w ss ls).length ≤ 200 := by
  have a := rows_cnt hn h1
  have b : ss.length * 21 ≤ 8 * 21 := Nat.mul_le_mul_right _ h2
  simp only [rowsD, List.length_map, List.length_cons, List.length_append] at a ⊢
  omega
theorem OkN.lk {n : Net} (hn : OkN n) {l : Pl × Pl} (h : l ∈ n.ln) : l.1.1 < 100 ∧ l.1.2 < 100 ∧ l.2.1 < 100 ∧ l.2.2 < 100 := by
  obtain ⟨p1, p2⟩ := hn.lp l h
  have e1 := hn.dle (k := l.1.1)
  have e2 := hn.dle (k := l.2.1)
  have q1 := p1.1
  have q2 := p1.2
  have q3 := p2.1
  have q4 := p2.2
  have := hn.s1
  omega
theorem written_eq {n : Net} (hn : OkN n) : m__law_written [eNet n] = .ok (.str (textN n)) := by
  refine WO.eq ?_
  unfold m__law_written
  rw [WO_runP (by rfl)]
  unfold g__law_written
  have hw1 := hn.w1
  have hs1 := hn.s1
  have hl1 := hn.l1
  have aw := numL_two (n := n.w) (by omega)
  with_reducible refine WS_step fun K hK => ?_
  simp [gStr_nat (n := n.w) (by omega)]
  refine ⟨by omega, ?_⟩
  rw [row_w]
  refine hK _ ?_
  clear hK
  have r0 : [D.str (rowOf (wordsW n.w))] = (rowsD n.w [] []).map .str := by simp [rowsD]
  rw [r0]
  with_reducible refine WS_step fun K hK => ?_
  simp
  refine for_of eSw (fun (ss : List (Nat × List Rule)) e => ∃ (done : List (Nat × List Rule)) (u v w : Option D), n.sw = done ++ ss ∧ e = [some (eNet n), some (.lst true ((rowsD n.w done []).map .str)), u, v, w, none, none]) n.sw ⟨[], none, none, none, by simp, rfl⟩ ?_ ?_
  · rintro s ss e K1 ⟨done, u, v, w, hdo, rfl⟩ hK1
    have hm : s ∈ n.sw := by rw [hdo]; simp
    obtain ⟨d1, d2, d3, d4⟩ := hn.d s hm
    have hdl : done.length ≤ 8 := by
      have := congrArg List.length hdo
      simp at this
      omega
    have hds : ∀ s ∈ done, s ∈ n.sw := fun s m => by rw [hdo]; simp [m]
    have hln := rowsD_len hn hds hdl (ls := []) (by simp)
    have as := numL_two (n := s.1) (by omega)
    simp [gStr_nat (n := s.1) (by omega)]
    refine ⟨by omega, by omega, ?_⟩
    rw [row_s]
    refine for_of eRule (fun (rs : List Rule) e => ∃ (rd : List Rule) (o : Option D), s.2 = rd ++ rs ∧ e = [some (eNet n), some (.lst true ((rowsD n.w done [] ++ rowOf (wordsS s.1) :: rd.map fun r => rowOf (wordsR r)).map .str)), some (.int s.1), some (.lst false (s.2.map eRule)), o, none, none]) s.2 ⟨[], w, by simp, by simp⟩ ?_ ?_
    · rintro r rs e K2 ⟨rd, o, hrd, rfl⟩ hK2
      have hr := d4 r (by rw [hrd]; simp)
      have hrl : rd.length ≤ 20 := by
        have := congrArg List.length hrd
        simp at this
        omega
      simp [lrow_eq d2 hw1 hr]
      refine ⟨by omega, ?_⟩
      refine hK2 _ ⟨rd ++ [r], some (eRule r), by rw [hrd]; simp, by simp [rowOf]⟩
    · rintro e ⟨rd, o, hrd, rfl⟩
      rw [List.append_nil] at hrd
      subst hrd
      rw [← rowsD_s]
      refine hK1 _ ⟨done ++ [s], _, _, o, by rw [hdo]; simp, rfl⟩
  · rintro e ⟨done, u, v, w, hdo, rfl⟩
    rw [List.append_nil] at hdo
    subst hdo
    refine hK _ ?_
    clear hK
    with_reducible refine WS_step fun K hK => ?_
    simp
    refine for_of eLn (fun (ls : List (Pl × Pl)) e => ∃ (ld : List (Pl × Pl)) (o1 o2 : Option D), n.ln = ld ++ ls ∧ e = [some (eNet n), some (.lst true ((rowsD n.w n.sw ld).map .str)), u, v, w, o1, o2]) n.ln ⟨[], none, none, by simp, rfl⟩ ?_ ?_
    · rintro l ls e K2 ⟨ld, o1, o2, hld, rfl⟩ hK2
      have hm : l ∈ n.ln := by rw [hld]; simp
      obtain ⟨q1, q2, q3, q4⟩ := hn.lk hm
      have hll : ld.length ≤ 24 := by
        have := congrArg List.length hld
        simp at this
        omega
      have hln := rowsD_len hn (ss := n.sw) (ls := ld) (fun _ m => m) hs1 hll
      have b1 := pl_len q1 q2
      have b2 := pl_len q3 q4
      simp [lspot_eq q1 q2, lspot_eq q3 q4]
      refine ⟨by omega, by omega, by omega, by omega, ?_⟩
      rw [row_l]
      refine hK2 _ ⟨ld ++ [l], some (ePl l.1), some (ePl l.2), by rw [hld]; simp, by rw [rowsD_l]; simp⟩
    · rintro e ⟨ld, o1, o2, hld, rfl⟩
      rw [List.append_nil] at hld
      subst hld
      refine hK _ ?_
      clear hK
      have e0 : rowsD n.w n.sw n.ln = rowsN n := rfl
      rw [e0]
      have := join_text hn (b := false)
      simp [this]
end My

namespace My
open PySem L2 DL
variable {X : Xc → DL.Env → Prop}
theorem shown_eq {n : Net} (hn : OkN n) : m_shown [eNet n] = .ok (.str (textN n)) := by
  refine WO.eq ?_
  unfold m_shown
  rw [WO_runP (by rfl)]
  unfold g_shown
  have hw1 := hn.w1
  have hs1 := hn.s1
  have hl1 := hn.l1
  have aw := numL_two (n := n.w) (by omega)
  with_reducible refine WS_step fun K hK => ?_
  simp
  refine hK _ ?_
  clear hK
  with_reducible refine WS_step fun K hK => ?_
  simp [gStr_nat (n := n.w) (by omega)]
  refine ⟨by omega, ?_⟩
  rw [row_w]
  refine hK _ ?_
  clear hK
  have r0 : [D.str (rowOf (wordsW n.w))] = (rowsD n.w [] []).map .str := by simp [rowsD]
  rw [r0]
  with_reducible refine WS_step fun K hK => ?_
  simp
  refine for_of eSw (fun (ss : List (Nat × List Rule)) e => ∃ (done : List (Nat × List Rule)) (u v : Option D), n.sw = done ++ ss ∧ e = [some (eNet n), some (.lst true ((rowsD n.w done []).map .str)), some (.int n.w), some (.lst false (n.sw.map eSw)), some (.lst false (n.ln.map eLn)), u, v, none, none, none]) n.sw ⟨[], none, none, by simp, by simp⟩ ?_ ?_
  · rintro s ss e K1 ⟨done, u, v, hdo, rfl⟩ hK1
    have hm : s ∈ n.sw := by rw [hdo]; simp
    obtain ⟨d1, d2, d3, d4⟩ := hn.d s hm
    have hdl : done.length ≤ 8 := by
      have := congrArg List.length hdo
      simp at this
      omega
    have hds : ∀ s ∈ done, s ∈ n.sw := fun s m => by rw [hdo]; simp [m]
    have hln := rowsD_len hn hds hdl (ls := []) (by simp)
    have as := numL_two (n := s.1) (by omega)
    simp [gStr_nat (n := s.1) (by omega)]
    refine ⟨by omega, by omega, ?_⟩
    rw [row_s]
    have hsh : shrs (s.2.map fun r => D.str (rowOf (wordsR r))) = false := by rw [shrs_any]; simp
    refine WO_extP (WO_cLcM eRule (fun r => .str (rowOf (wordsR r))) s.2 (by simp) (by omega) (fun r m => ?_) ⟨_, [], _, _, _, _, rfl, rfl, rfl, rfl, by rw [hsh]; rfl, rfl, by simp; omega, ?_⟩)
    · simp [shownrule_eq d2 hw1 (d4 r m)]
    · rw [hsh]
      refine hK1 _ ⟨done ++ [s], some (.int s.1), some (.lst false (s.2.map eRule)), by rw [hdo]; simp, ?_⟩
      rw [rowsD_s]
      simp [setP]
  · rintro e ⟨done, u, v, hdo, rfl⟩
    rw [List.append_nil] at hdo
    subst hdo
    refine hK _ ?_
    clear hK
    with_reducible refine WS_step fun K hK => ?_
    simp
    have hsh : shrs (n.ln.map fun l => D.str (rowOf (wordsL l))) = false := by rw [shrs_any]; simp
    have hln := rowsD_len hn (ss := n.sw) (ls := []) (fun _ m => m) hs1 (by simp)
    refine WO_extP (WO_cLcM eLn (fun l => .str (rowOf (wordsL l))) n.ln (by simp) (by omega) (fun l m => ?_) ⟨_, [], _, _, _, _, rfl, rfl, rfl, rfl, by rw [hsh]; rfl, rfl, by simp; omega, ?_⟩)
    · obtain ⟨q1, q2, q3, q4⟩ := hn.lk m
      have b1 := pl_len q1 q2
      have b2 := pl_len q3 q4
      simp [shownplace_eq q1 q2, shownplace_eq q3 q4]
      refine ⟨by omega, by omega, by omega, ?_⟩
      rw [row_l]
    · rw [hsh]
      have e0 : (rowsD n.w n.sw []).map D.str ++ n.ln.map (fun l => .str (rowOf (wordsL l))) = (rowsN n).map .str := by
        simp [rowsD, rowsN, wordsN]
      refine hK _ ?_
      clear hK
      have := join_text hn (b := false)
      simp [setP, e0]
      rw [show gJoin (.str [10]) (.lst false ((rowsN n).map fun x => D.str x)) = .ok (.str (textN n)) from this]
      rfl
end My

namespace My
open PySem L2 DL
variable {X : Xc → DL.Env → Prop}
abbrev FR : List Str := ["own_width", "own_switches", "own_links"]
abbrev FR1 : List Str := ["own_width"]
abbrev FR2 : List Str := ["own_width", "own_switches"]
section
variable {a b c d' : D} {r : DL.Env} {o : Bool}
@[simp] theorem rd_w : gFld "Reading" "own_width" (.obj o "Reading" FR [a, b, c]) = .ok a := by kernel_rfl
@[simp] theorem rd_s : gFld "Reading" "own_switches" (.obj o "Reading" FR [a, b, c]) = .ok b := by kernel_rfl
@[simp] theorem rd_l : gFld "Reading" "own_links" (.obj o "Reading" FR [a, b, c]) = .ok c := by kernel_rfl
theorem rp_w : pFld 0 "Reading" "own_width" (pVar 0) (some (.obj true "Reading" FR [a, b, c]) :: r) = .ok [.fld "own_width"] := by kernel_rfl
theorem rp_s : pFld 0 "Reading" "own_switches" (pVar 0) (some (.obj true "Reading" FR [a, b, c]) :: r) = .ok [.fld "own_switches"] := by kernel_rfl
theorem rp_l : pFld 0 "Reading" "own_links" (pVar 0) (some (.obj true "Reading" FR [a, b, c]) :: r) = .ok [.fld "own_links"] := by kernel_rfl
theorem rg_w : getP [.fld "own_width"] (.obj true "Reading" FR [a, b, c]) = some a := by kernel_rfl
theorem rg_s : getP [.fld "own_switches"] (.obj true "Reading" FR [a, b, c]) = some b := by kernel_rfl
theorem rg_l : getP [.fld "own_links"] (.obj true "Reading" FR [a, b, c]) = some c := by kernel_rfl
theorem rs_w : setP [.fld "own_width"] d' (.obj true "Reading" FR [a, b, c]) = .obj true "Reading" FR [d', b, c] := by kernel_rfl
theorem rs_s : setP [.fld "own_switches"] d' (.obj true "Reading" FR [a, b, c]) = .obj true "Reading" FR [a, d', c] := by kernel_rfl
theorem rs_l : setP [.fld "own_links"] d' (.obj true "Reading" FR [a, b, c]) = .obj true "Reading" FR [a, b, d'] := by kernel_rfl
theorem rn1 : putN "own_width" [] = FR1 ∧ putX "own_width" a [] [] = [a] := ⟨by kernel_rfl, by kernel_rfl⟩
theorem rn2 : putN "own_switches" FR1 = FR2 ∧ putX "own_switches" b FR1 [a] = [a, b] := ⟨by kernel_rfl, by kernel_rfl⟩
theorem rn3 : putN "own_links" FR2 = FR ∧ putX "own_links" c FR2 [a, b] = [a, b, c] := ⟨by kernel_rfl, by kernel_rfl⟩
theorem rn4 : putN "own_width" FR = FR ∧ putX "own_width" d' FR [a, b, c] = [d', b, c] := ⟨by kernel_rfl, by kernel_rfl⟩
@[simp] theorem ro_tw : isOb "Reading" "take_width" (.obj o "Reading" FR [a, b, c]) = true := by kernel_rfl
@[simp] theorem ro_ts : isOb "Reading" "take_switch" (.obj o "Reading" FR [a, b, c]) = true := by kernel_rfl
@[simp] theorem ro_tl : isOb "Reading" "take_link" (.obj o "Reading" FR [a, b, c]) = true := by kernel_rfl
@[simp] theorem ro_tr : isOb "Reading" "take_rule" (.obj o "Reading" FR [a, b, c]) = true := by kernel_rfl
@[simp] theorem ro_t : isOb "Reading" "take" (.obj o "Reading" FR [a, b, c]) = true := by kernel_rfl
@[simp] theorem ro_n : isOb "Reading" "net" (.obj o "Reading" FR [a, b, c]) = true := by kernel_rfl
end
def eSwO (s : Nat × List Rule) : D := .tup [.int s.1, .lst true (s.2.map eRuleO)]
@[simp] theorem frz_eSwO {s : Nat × List Rule} : frz (eSwO s) = eSw s := by
  simp only [eSwO, eSw, frz_tup, frzs_cons, frz_int, frz_lst, frzs_nil]
  rw [frzs_map, List.map_map]
  congr 4
  exact List.map_congr_left fun r _ => frz_eRuleO
def eRd (w : Option Nat) (sw : List (Nat × List Rule)) (ln : List (Pl × Pl)) : D := .obj true "Reading" FR [eO w, .lst true (sw.map eSwO), .lst true (ln.map eLn)]
theorem frzs_swO {sw : List (Nat × List Rule)} : frzs (sw.map eSwO) = sw.map eSw := by
  rw [frzs_map, List.map_map]
  exact List.map_congr_left fun s _ => frz_eSwO
theorem frzs_ln {ln : List (Pl × Pl)} : frzs (ln.map eLn) = ln.map eLn := by
  rw [frzs_map, List.map_map]
  exact List.map_congr_left fun s _ => frz_eLn
theorem frz_eRd {w : Option Nat} {sw : List (Nat × List Rule)} {ln : List (Pl × Pl)} : frz (eRd w sw ln) = .obj false "Reading" FR [eO w, .lst false (sw.map eSw), .lst false (ln.map eLn)] := by
  show D.obj false "Reading" FR (frzs _) = _
  simp only [frzs_cons, frz_eO, frz_lst, frzs_nil, frzs_swO, frzs_ln]
theorem initR_eq : m_Reading___init__ [.obj true "Reading" [] []] = .ok (.non, eRd none [] []) := by
  refine WO.eq ?_
  unfold m_Reading___init__
  rw [WO_runX (by rfl)]
  unfold g_Reading___init__
  with_reducible refine WS_step fun K hK => ?_
  simp
  refine ⟨[], [], ⟨rfl, rfl⟩, by decide, hK _ ?_⟩
  clear hK
  rw [(rn1 (a := .non)).1, (rn1 (a := .non)).2]
  with_reducible refine WS_step fun K hK => ?_
  simp
  refine ⟨FR1, [.non], ⟨rfl, rfl⟩, by decide, hK _ ?_⟩
  clear hK
  rw [(rn2 (a := .non) (b := .lst true [])).1, (rn2 (a := .non) (b := .lst true [])).2]
  simp
  refine ⟨FR2, [.non, .lst true []], ⟨rfl, rfl⟩, by decide, ?_⟩
  rw [show Str.ofString "own_links" = ("own_links" : Str) from rfl, (rn3 (a := .non) (b := .lst true []) (c := .lst true [])).1, (rn3 (a := .non) (b := .lst true []) (c := .lst true [])).2]
  rfl
theorem takew_eq {w : Nat} (h : w < 100) : m_Reading_take_width [eRd none [] [], .lst false ((wordsW w).map .str)] = .ok (.non, eRd (some w) [] []) := by
  refine WO.eq ?_
  unfold m_Reading_take_width
  rw [WO_runX (by rfl)]
  unfold g_Reading_take_width
  with_reducible refine WS_step fun K hK => ?_
  simp [wordsW, wWidth, eqD, numberof_eq h, gIsN]
  refine hK _ ?_
  clear hK
  simp [numberof_eq h]
  refine ⟨FR, [.non, .lst true [], .lst true []], rfl, by decide, ?_⟩
  rw [show Str.ofString "own_width" = ("own_width" : Str) from rfl, (rn4 (a := .non) (b := .lst true []) (c := .lst true []) (d' := .int w)).1, (rn4 (a := .non) (b := .lst true []) (c := .lst true []) (d' := .int w)).2]
  rfl
theorem takes_eq {w : Option Nat} {sw : List (Nat × List Rule)} {d : Nat} (h : d < 100) (hl : sw.length ≤ 1000) : m_Reading_take_switch [eRd w sw [], .lst false ((wordsS d).map .str)] = .ok (.non, eRd w (sw ++ [(d, [])]) []) := by
  refine WO.eq ?_
  unfold m_Reading_take_switch
  rw [WO_runX (by rfl)]
  unfold g_Reading_take_switch
  have hf := frz_eRd (w := w) (sw := sw) (ln := [])
  with_reducible refine WS_step fun K hK => ?_
  simp [wordsS, wSwitch, numberof_eq h, gIsN, hf, plainDs, dles_nil]
  refine hK _ ?_
  clear hK
  simp
  refine WO_appP' (x := .tup [.int d, .lst true []]) rp_s rfl (WO.eq (by simp [numberof_eq h])) rg_s rfl rg_s (by simpa using Nat.lt_of_le_of_lt hl (by decide)) ?_
  show some (some (setP _ _ _)) = _
  unfold eRd
  rw [show setP [.fld (Str.ofString "own_switches")] _ _ = _ from rs_s, List.map_append]
  rfl
theorem cut1d {a : D} {c : List D} : cut (a :: c) (some (1 : Int)) none = c := by
  rw [show (1 : Int) = ((1 : Nat) : Int) from rfl, cut_drop]
  rfl
theorem takel_eq {w : Option Nat} {sw : List (Nat × List Rule)} {ln : List (Pl × Pl)} {l : Pl × Pl} (h1 : l.1.1 < 100) (h2 : l.1.2 < 100) (h3 : l.2.1 < 100) (h4 : l.2.2 < 100) (hl : ln.length ≤ 1000) : m_Reading_take_link [eRd w sw ln, .lst false ((wordsL l).map .str)] = .ok (.non, eRd w sw (ln ++ [l])) := by
  refine WO.eq ?_
  unfold m_Reading_take_link
  rw [WO_runX (by rfl)]
  unfold g_Reading_take_link
  with_reducible refine WS_step fun K hK => ?_
  simp [wordsL]
  refine WO_cLcM (fun p : Pl => .str (plT p)) ePl [l.1, l.2] (by simp [cut1d]) (by simp) (fun p m => ?_) ?_
  · have hp : p.1 < 100 ∧ p.2 < 100 := by
      simp at m
      rcases m with rfl | rfl
      · exact ⟨h1, h2⟩
      · exact ⟨h3, h4⟩
    simp [placeof_eq hp.1 hp.2]
  refine hK _ ?_
  clear hK
  with_reducible refine WS_step fun K hK => ?_
  simp [plainDs, inD]
  refine hK _ ?_
  clear hK
  simp
  refine WO_appP' (x := eLn l) rp_l rfl (WO.eq (by simp; exact (rfl : _ = eLn l))) rg_l rfl rg_l (by simpa using Nat.lt_of_le_of_lt hl (by decide)) ?_
  rw [shr_eLn]
  show some (some (setP _ _ _)) = _
  unfold eRd
  rw [show setP [.fld (Str.ofString "own_links")] _ _ = _ from rs_l, List.map_append]
  rfl
theorem rgf {a b c : D} : getFD (Str.ofString "own_switches") FR [a, b, c] = some b := by kernel_rfl
theorem rsf {a b c d' : D} : setFD (Str.ofString "own_switches") d' FR [a, b, c] = [a, d', c] := by kernel_rfl
theorem rg_path {a b c : D} {π : List DL.Step} : getP (.fld "own_switches" :: π) (.obj true "Reading" FR [a, b, c]) = getP π b := by
  show (getFD (Str.ofString "own_switches") FR [a, b, c]).bind (getP π) = _
  rw [rgf]
  rfl
theorem rs_path {a b c v : D} {π : List DL.Step} : setP (.fld "own_switches" :: π) v (.obj true "Reading" FR [a, b, c]) = .obj true "Reading" FR [a, setP π v b, c] := by
  show D.obj true "Reading" FR (setFD (Str.ofString "own_switches") (match getFD (Str.ofString "own_switches") FR [a, b, c] with | some x => setP π v x | none => v) FR [a, b, c]) = _
  rw [rgf, rsf]
theorem rp_last {a c x : D} {xs : List D} {r : DL.Env} : pIx 0 [] (pFld 0 "Reading" "own_switches" (pVar 0)) (c1 gNeg (cK (.int 1))) (some (.obj true "Reading" FR [a, .lst true (xs ++ [x]), c]) :: r) = .ok [.fld "own_switches", .ix xs.length] := by
  unfold pIx
  rw [rp_s]
  have e1 : c1 gNeg (cK (.int 1)) (view [] (some (.obj true "Reading" FR [a, .lst true (xs ++ [x]), c]) :: r)) = .ok (.int (-1)) := rfl
  rw [e1]
  have e2 : itsP [.fld "own_switches"] (.obj true "Reading" FR [a, .lst true (xs ++ [x]), c]) = some (xs ++ [x]) := by
    unfold itsP
    rw [rg_s]
  simp only [List.getElem?_cons_zero]
  rw [e2]
  have e3 : ixN (xs ++ [x]).length (-1) = some xs.length := by
    unfold ixN
    rw [if_neg (by decide)]
    simp
    omega
  simp only [e3]
  rfl
theorem rp_last1 {a c e y : D} {xs : List D} {r : DL.Env} : pIx 0 [] (pIx 0 [] (pFld 0 "Reading" "own_switches" (pVar 0)) (c1 gNeg (cK (.int 1)))) (cK (.int 1)) (some (.obj true "Reading" FR [a, .lst true (xs ++ [.tup [e, y]]), c]) :: r) = .ok [.fld "own_switches", .ix xs.length, .ix 1] := by
  rw [pIx, rp_last]
  have e1 : (cK (.int 1) : F) (view [] (some (.obj true "Reading" FR [a, .lst true (xs ++ [.tup [e, y]]), c]) :: r)) = .ok (.int 1) := rfl
  rw [e1]
  have e2 : itsP [.fld "own_switches", .ix xs.length] (.obj true "Reading" FR [a, .lst true (xs ++ [.tup [e, y]]), c]) = some [e, y] := by
    unfold itsP
    rw [show getP [.fld (Str.ofString "own_switches"), .ix xs.length] _ = _ from rg_path]
    simp [getP]
  simp only [List.getElem?_cons_zero]
  rw [e2]
  rfl
theorem taker_eq {w : Option Nat} {sw : List (Nat × List Rule)} {d : Nat} {rs : List Rule} {wd dd : Nat} {r : Rule} (h : OkR wd dd r) (hw : 1 ≤ wd) (hw2 : wd ≤ 16) (hd : dd ≤ 6) (hl : sw.length ≤ 1000) (hrl : rs.length ≤ 1000) : m_Reading_take_rule [eRd w (sw ++ [(d, rs)]) [], .lst false ((wordsR r).map .str)] = .ok (.non, eRd w (sw ++ [(d, rs ++ [r])]) []) := by
  refine WO.eq ?_
  unfold m_Reading_take_rule
  rw [WO_runX (by rfl)]
  unfold g_Reading_take_rule
  have hf := frz_eRd (w := w) (sw := sw ++ [(d, rs)]) (ln := [])
  with_reducible refine WS_step fun K hK => ?_
  simp [ruleof_eq h hw hw2 hd]
  refine hK _ ?_
  clear hK
  with_reducible refine WS_step fun K hK => ?_
  simp [hf, gIsN, plainDs, dles_nil, eRule, eRuleO]
  refine hK _ ?_
  clear hK
  simp
  have hlast : (sw ++ [(d, rs)]).map eSwO = sw.map eSwO ++ [.tup [.int d, .lst true (rs.map eRuleO)]] := by
    rw [List.map_append]
    rfl
  unfold eRd
  rw [hlast]
  refine WO_appPM (π := [.fld "own_switches", .ix sw.length, .ix 1]) (x := eRuleO r) (by rw [rp_last1, List.length_map]) rfl rfl (by decide) (es := rs.map eRuleO) ?_ (by simpa using Nat.lt_of_le_of_lt hrl (by decide)) ?_
  · rw [rg_path]
    simp [getP]
  · show some (some (setP _ _ _)) = _
    rw [rs_path]
    simp [setP]
    simp [eSwO]
end My

namespace My
open PySem L2 DL
variable {X : Xc → DL.Env → Prop}
theorem is_none {w : Option Nat} : gIsN false (eO w) .non = .ok (.bl w.isNone) := by cases w <;> rfl
theorem take_w {w : Nat} (h : w < 100) : m_Reading_take [eRd none [] [], .str (rowOf (wordsW w))] = .ok (.non, eRd (some w) [] []) := by
  refine WO.eq ?_
  unfold m_Reading_take
  rw [WO_runX (by rfl)]
  unfold g_Reading_take
  have hf := frz_eRd (w := none) (sw := []) (ln := [])
  have hs : TL.spl [32] 0 [] (rowOf (wordsW w)) = wordsW w := spl_row (by simp [wordsW]) fun x m => by
    simp [wordsW] at m
    rcases m with rfl | rfl
    · intro c m
      simp [wWidth] at m
      omega
    · exact sg_num
  have hl : (rowOf (wordsW w)).length ≤ 100 := by
    have := numL_two h
    refine row_len (by simp [wordsW]) fun x m => ?_
    simp [wordsW] at m
    rcases m with rfl | rfl
    · simp [wWidth]
    · omega
  with_reducible refine WS_step fun K hK => ?_
  simp [hs]
  refine ⟨by omega, hK _ ?_⟩
  clear hK
  simp [hf, is_none]
  refine WO_xMIO rfl (by simp [eRd]) ?_
  rw [WO_xIO rfl]
  simp
  rw [show m_Reading_take_width [eRd none [] [], .lst false ((wordsW w).map fun x => .str x)] = _ from takew_eq h]
  rfl
theorem spl_sg {ws : List (List Nat)} {n : Net} (hn : OkN n) (h : ws ∈ wordsN n) : TL.spl [32] 0 [] (rowOf ws) = ws := spl_row (sg_words hn ws h).1 (sg_words hn ws h).2
theorem take_s {n : Net} {w : Nat} {sw : List (Nat × List Rule)} {d : Nat} (hn : OkN n) (hm : wordsS d ∈ wordsN n) (h : d < 100) (hl : sw.length ≤ 1000) : m_Reading_take [eRd (some w) sw [], .str (rowOf (wordsS d))] = .ok (.non, eRd (some w) (sw ++ [(d, [])]) []) := by
  refine WO.eq ?_
  unfold m_Reading_take
  rw [WO_runX (by rfl)]
  unfold g_Reading_take
  have hf := frz_eRd (w := some w) (sw := sw) (ln := [])
  have hs := spl_sg hn hm
  have hlen := words_all hn _ hm
  with_reducible refine WS_step fun K hK => ?_
  simp [hs]
  refine ⟨by omega, hK _ ?_⟩
  clear hK
  simp [hf, is_none, wordsS, wSwitch, eqD]
  refine WO_xMIO rfl (by simp [eRd]) ?_
  rw [WO_xIO rfl]
  simp
  rw [show m_Reading_take_switch [eRd (some w) sw [], .lst false [.str [115, 119, 105, 116, 99, 104], .str (TL.numL d)]] = _ from takes_eq h hl]
  rfl
theorem take_l {n : Net} {w : Nat} {sw : List (Nat × List Rule)} {ln : List (Pl × Pl)} {l : Pl × Pl} (hn : OkN n) (hm : l ∈ n.ln) (hl : ln.length ≤ 1000) : m_Reading_take [eRd (some w) sw ln, .str (rowOf (wordsL l))] = .ok (.non, eRd (some w) sw (ln ++ [l])) := by
  refine WO.eq ?_
  unfold m_Reading_take
  rw [WO_runX (by rfl)]
  unfold g_Reading_take
  have hf := frz_eRd (w := some w) (sw := sw) (ln := ln)
  have hw : wordsL l ∈ wordsN n := by simp [wordsN]; exact .inr (.inr ⟨_, _, _, _, hm, rfl⟩)
  have hs := spl_sg hn hw
  have hlen := words_all hn _ hw
  obtain ⟨q1, q2, q3, q4⟩ := hn.lk hm
  with_reducible refine WS_step fun K hK => ?_
  simp [hs]
  refine ⟨by omega, hK _ ?_⟩
  clear hK
  simp [hf, is_none, wordsL, wLink, eqD]
  refine WO_xMIO rfl (by simp [eRd]) ?_
  rw [WO_xIO rfl]
  simp
  rw [show m_Reading_take_link [eRd (some w) sw ln, .lst false [.str [108, 105, 110, 107], .str (plT l.1), .str (plT l.2)]] = _ from takel_eq q1 q2 q3 q4 hl]
  rfl
theorem take_r {n : Net} {w : Nat} {sw : List (Nat × List Rule)} {d dd : Nat} {rs : List Rule} {r : Rule} (hn : OkN n) (hm : wordsR r ∈ wordsN n) (h : OkR n.w dd r) (hd : dd ≤ 6) (hl : sw.length ≤ 1000) (hrl : rs.length ≤ 1000) : m_Reading_take [eRd (some w) (sw ++ [(d, rs)]) [], .str (rowOf (wordsR r))] = .ok (.non, eRd (some w) (sw ++ [(d, rs ++ [r])]) []) := by
  refine WO.eq ?_
  unfold m_Reading_take
  rw [WO_runX (by rfl)]
  unfold g_Reading_take
  have hf := frz_eRd (w := some w) (sw := sw ++ [(d, rs)]) (ln := [])
  have hs := spl_sg hn hm
  have hlen := words_all hn _ hm
  have hw3 : wordsR r = doorT r.door :: r.pat :: outsT r.outs := rfl
  have hdl := door_len hd h
  have n1 : doorT r.door ≠ [115, 119, 105, 116, 99, 104] := fun e => by rw [e] at hdl; simp at hdl
  have n2 : doorT r.door ≠ [108, 105, 110, 107] := fun e => by rw [e] at hdl; simp at hdl
  with_reducible refine WS_step fun K hK => ?_
  simp [hs]
  refine ⟨by omega, hK _ ?_⟩
  clear hK
  simp [hf, is_none, hw3, eqD, n1, n2]
  refine WO_xMIO rfl (by simp [eRd]) ?_
  rw [WO_xIO rfl]
  simp
  rw [show m_Reading_take_rule [eRd (some w) (sw ++ [(d, rs)]) [], .lst false (.str (doorT r.door) :: .str r.pat :: (outsT r.outs).map fun x => .str x)] = _ from taker_eq h hn.w0 hn.w1 hd hl hrl]
  rfl
end My

namespace My
open PySem L2 DL
variable {X : Xc → DL.Env → Prop}
theorem isout_eq {w d : Nat} {o : Nat × List Nat} (h1 : o.1 < d) (h2 : o.2.length = w) (hw : w ≤ 16) (hp : IsP o.2) : m_is_out [.int w, .int d, eOut o] = .ok (.bl true) := by
  refine WO.eq ?_
  unfold m_is_out
  rw [WO_runP (by rfl)]
  unfold g_is_out
  have hpe : m_is_pattern [.str o.2, .int (w : Nat)] = .ok (.bl true) := by
    rw [pattern_eq (d := .str o.2) rfl (fun cs e => by cases e; omega) rfl, isOf_pat h2 hp]
  have hb : m_is_below [.int (o.1 : Nat), .int (d : Nat)] = .ok (.bl true) := by
    rw [below_eq (d := .int o.1) rfl rfl]
    simp [belowD, h1]
  have hi : gIsi .tuple (eOut o) = .ok (.bl true) := rfl
  have hl : gLen (eOut o) = .ok (.int 2) := rfl
  have x0 : gIx (eOut o) (.int 0) = .ok (.int (o.1 : Nat)) := rfl
  have x1 : gIx (eOut o) (.int 1) = .ok (.str o.2) := rfl
  simp [hi, hl, x0, x1, hb, hpe]
theorem isrule_eq {w d : Nat} {r : Rule} (h : OkR w d r) (hw : w ≤ 16) (hd : d ≤ 6) : m_is_rule [.int w, .int d, eRule r] = .ok (.bl true) := by
  refine WO.eq ?_
  unfold m_is_rule
  rw [WO_runP (by rfl)]
  unfold g_is_rule
  have hpe : m_is_pattern [.str r.pat, .int (w : Nat)] = .ok (.bl true) := by
    have := h.pl
    rw [pattern_eq (d := .str r.pat) rfl (fun cs e => by cases e; omega) rfl, isOf_pat h.pl h.pp]
  have hi : gIsi .tuple (eRule r) = .ok (.bl true) := rfl
  have hl : gLen (eRule r) = .ok (.int 3) := rfl
  have hi2 : ∀ b, gIsi .list (.lst b (r.outs.map eOut)) = .ok (.bl true) := fun b => rfl
  have hol := h.ol
  with_reducible refine WS_step fun K hK => ?_
  simp [hi, hl]
  refine hK _ ?_
  clear hK
  with_reducible refine WS_step fun K hK => ?_
  simp
  refine hK _ ?_
  clear hK
  with_reducible refine WS_step fun K hK => ?_
  have hdoor : (r.door = none ∨ ∃ k, r.door = some k ∧ m_is_below [.int (k : Nat), .int (d : Nat)] = .ok (.bl true)) := by
    cases hr : r.door with
    | none => exact .inl rfl
    | some k =>
      have := h.door k hr
      refine .inr ⟨k, rfl, ?_⟩
      rw [below_eq (d := .int k) rfl rfl]
      simp [belowD, this]
  have fin : K [some (.int w), some (.int d), some (eRule r), some (eO r.door), some (.str r.pat), some (.lst false (r.outs.map eOut)), none] := by
    refine hK _ ?_
    clear hK
    with_reducible refine WS_step fun K hK => ?_
    simp [hi2]
    refine ⟨by omega, hK _ ?_⟩
    clear hK
    simp
    refine WO_cLcM eOut (fun _ => .bl true) r.outs (by simp) (by omega) (fun o m => ?_) ?_
    · obtain ⟨o1, o2, o3⟩ := h.od o m
      simp [isout_eq o1 o2 hw o3]
    · simp
  rcases hdoor with e | ⟨k, e, hb⟩
  · rw [e] at fin ⊢
    have e0 : eO none = .non := rfl
    rw [e0] at fin ⊢
    simp [gIsN, hpe]
    exact fin
  · rw [e] at fin ⊢
    have e0 : eO (some k) = .int k := rfl
    rw [e0] at fin ⊢
    simp [gIsN, hpe, hb]
    exact fin
theorem lookswitch_eq {n : Net} {s : Nat × List Rule} {k : Nat} (hn : OkN n) (hs : s ∈ n.sw) : m_look_at_switch [.int n.w, .int k, eSw s] = .ok .non := by
  refine WO.eq ?_
  unfold m_look_at_switch
  rw [WO_runP (by rfl)]
  unfold g_look_at_switch
  obtain ⟨d1, d2, d3, d4⟩ := hn.d s hs
  have hi : gIsi .tuple (eSw s) = .ok (.bl true) := rfl
  have hl : gLen (eSw s) = .ok (.int 2) := rfl
  have hi2 : ∀ b, gIsi .list (.lst b (s.2.map eRule)) = .ok (.bl true) := fun b => rfl
  have hb : m_is_below [.int (s.1 : Nat), .int 7] = .ok (.bl true) := by
    rw [below_eq (d := .int s.1) rfl rfl]
    simp [belowD]
    omega
  with_reducible refine WS_step fun K hK => ?_
  simp [hi, hl, hb, eqD]
  refine ⟨by omega, hK _ ?_⟩
  clear hK
  with_reducible refine WS_step fun K hK => ?_
  simp
  refine hK _ ?_
  clear hK
  with_reducible refine WS_step fun K hK => ?_
  simp [hi2]
  refine ⟨by omega, hK _ ?_⟩
  clear hK
  rw [WS_for]
  simp
  rw [List.zipIdx_map, List.map_map]
  refine for_of (fun p : Rule × Nat => .tup [.int p.2, eRule p.1]) (fun (ps : List (Rule × Nat)) e => (∀ p ∈ ps, p.1 ∈ s.2) ∧ ∃ o1 o2 : Option D, e = [some (.int n.w), some (.int k), some (eSw s), some (.int s.1), some (.lst false (s.2.map eRule)), o1, o2]) s.2.zipIdx ⟨fun p m => ?_, none, none, rfl⟩ ?_ ?_
  · obtain ⟨r, i⟩ := p
    have := List.mem_zipIdx_iff_getElem?.mp m
    exact List.mem_of_getElem? this
  · rintro ⟨r, i⟩ ps e K1 ⟨hps, o1, o2, rfl⟩ hK1
    have hr := d4 r (hps _ (List.mem_cons_self ..))
    simp [isrule_eq hr hn.w1 d2]
    exact hK1 _ ⟨fun p m => hps p (List.mem_cons_of_mem _ m), _, _, rfl⟩
  · rintro e ⟨_, o1, o2, rfl⟩
    trivial
theorem eqPl_in {ls : List (Pl × Pl)} {p : Pl} : inD (ePl p) ((endsL ls).map ePl) = decide (p ∈ endsL ls) := by
  unfold inD
  rw [List.any_map, Bool.eq_iff_iff, List.any_eq_true]
  constructor
  · rintro ⟨q, m, e⟩
    have e : eqD (ePl q) (ePl p) = true := e
    rw [eqD_ePl] at e
    rw [of_decide_eq_true e] at m
    exact decide_eq_true m
  · intro m
    refine ⟨p, of_decide_eq_true m, ?_⟩
    show eqD (ePl p) (ePl p) = true
    rw [eqD_ePl]
    simp
theorem ge_pl {a b : Pl} : gGeD (ePl a) (ePl b) = .ok (.bl (!ltPl a b)) := by
  unfold gGeD gOrd
  rw [if_pos (by rfl)]
  simp only [ePl, ltD_pair, ltPl, Int.ofNat_lt, Int.ofNat_inj]
theorem looklinks_eq {n : Net} (hn : OkN n) : m_look_at_links [.lst false (n.sw.map eSw), .lst false (n.ln.map eLn)] = .ok .non := by
  refine WO.eq ?_
  unfold m_look_at_links
  rw [WO_runP (by rfl)]
  unfold g_look_at_links
  have hl1 := hn.l1
  have hi2 : ∀ b, gIsi .list (.lst b (n.ln.map eLn)) = .ok (.bl true) := fun b => rfl
  with_reducible refine WS_step fun K hK => ?_
  simp [hi2]
  refine ⟨by omega, hK _ ?_⟩
  clear hK
  with_reducible refine WS_step fun K hK => ?_
  simp
  refine hK _ ?_
  clear hK
  rw [WS_for]
  simp
  rw [List.zipIdx_map, List.map_map]
  refine for_of (fun p : (Pl × Pl) × Nat => .tup [.int p.2, eLn p.1]) (fun (ps : List ((Pl × Pl) × Nat)) e => ∃ (ld : List (Pl × Pl)) (o1 o2 : Option D), n.ln = ld ++ ps.map (·.1) ∧ e = [some (.lst false (n.sw.map eSw)), some (.lst false (n.ln.map eLn)), some (.lst true ((endsL ld).map ePl)), o1, o2, none]) n.ln.zipIdx ⟨[], none, none, by simp, rfl⟩ ?_ ?_
  · rintro ⟨l, i⟩ ps e K1 ⟨ld, o1, o2, hld, rfl⟩ hK1
    have hld : n.ln = ld ++ l :: ps.map (·.1) := hld
    have hm : l ∈ n.ln := by rw [hld]; simp
    obtain ⟨p1, p2⟩ := hn.lp l hm
    have hlt := hn.lt l hm
    have hnd := hn.nd
    have e1 : endsL n.ln = endsL ld ++ ([l.1, l.2] ++ endsL (ps.map (·.1))) := by
      rw [hld]
      simp [endsL]
    rw [e1] at hnd
    obtain ⟨_, _, hdj⟩ := List.nodup_append.mp hnd
    have n1 : l.1 ∉ endsL ld := fun m => hdj _ m _ (by simp) rfl
    have n2 : l.2 ∉ endsL ld := fun m => hdj _ m _ (by simp) rfl
    have hi : gIsi .tuple (eLn l) = .ok (.bl true) := rfl
    have hl : gLen (eLn l) = .ok (.int 2) := rfl
    have x0 : gIx (eLn l) (.int 0) = .ok (ePl l.1) := rfl
    have x1 : gIx (eLn l) (.int 1) = .ok (ePl l.2) := rfl
    have tg : sT 2 (sCons (sN 3) (sCons (sN 4) sNil)) (.tup [.int (i : Nat), eLn l]) [some (.lst false (n.sw.map eSw)), some (.lst false (n.ln.map eLn)), some (.lst true ((endsL ld).map ePl)), o1, o2, none] = .ok [some (.lst false (n.sw.map eSw)), some (.lst false (n.ln.map eLn)), some (.lst true ((endsL ld).map ePl)), some (.int (i : Nat)), some (eLn l), none] := rfl
    rw [tg, WO_ok]
    with_reducible refine WT_step fun K2 hK2 => ?_
    simp [hi, hl]
    refine WO_cLcM ePl (fun _ => .bl true) [l.1, l.2] (by simp [eLn]) (by simp) (fun q m => ?_) ?_
    · have hq : OkPl n q := by
        simp at m
        rcases m with rfl | rfl
        · exact p1
        · exact p2
      have := place_pl (p := q) hn
      rw [decide_eq_true hq] at this
      simp [this]
    simp
    refine hK2 _ ?_
    clear hK2
    with_reducible refine WT_step fun K2 hK2 => ?_
    simp [x0, x1, ge_pl, hlt, eqPl_in, n1, n2]
    refine hK2 _ ?_
    clear hK2
    simp
    have hle : (endsL ld).length ≤ 48 := by
      have : ld.length ≤ 24 := by
        have := congrArg List.length hld
        simp at this
        omega
      have e2 : (endsL ld).length = ld.length * 2 := by simp [endsL]; omega
      omega
    refine WO_extT (π := []) (xs := [ePl l.1, ePl l.2]) rfl rfl rfl rfl rfl rfl (by simp; omega) ?_
    refine hK1 _ ⟨ld ++ [l], some (.int (i : Nat)), some (eLn l), by rw [hld]; simp, ?_⟩
    simp [setP, endsL]
  · rintro e ⟨ld, o1, o2, hld, rfl⟩
    trivial
theorem looknet_eq {n : Net} (hn : OkN n) : m_look_at_net [eNet n] = .ok .non := by
  refine WO.eq ?_
  unfold m_look_at_net
  rw [WO_runP (by rfl)]
  unfold g_look_at_net
  have hw0 := hn.w0
  have hw1 := hn.w1
  have hs0 := hn.s0
  have hs1 := hn.s1
  have hi : gIsi .tuple (eNet n) = .ok (.bl true) := rfl
  have hl : gLen (eNet n) = .ok (.int 3) := rfl
  have hi2 : ∀ b, gIsi .list (.lst b (n.sw.map eSw)) = .ok (.bl true) := fun b => rfl
  have hwd : m_is_width [.int (n.w : Nat)] = .ok (.bl true) := by
    refine WO.eq ?_
    unfold m_is_width
    rw [WO_runP (by rfl)]
    unfold g_is_width
    rw [show (1 : Int) = ((1 : Nat) : Int) from rfl]
    simp [whole_eq (d := .int n.w) rfl, isWholeD]
    omega
  with_reducible refine WS_step fun K hK => ?_
  simp [hi, hl]
  refine hK _ ?_
  clear hK
  with_reducible refine WS_step fun K hK => ?_
  simp
  refine hK _ ?_
  clear hK
  with_reducible refine WS_step fun K hK => ?_
  simp [hwd]
  refine hK _ ?_
  clear hK
  with_reducible refine WS_step fun K hK => ?_
  simp [hi2]
  refine ⟨by omega, by omega, hK _ ?_⟩
  clear hK
  with_reducible refine WS_step fun K hK => ?_
  simp
  rw [List.zipIdx_map, List.map_map]
  refine for_of (fun p : (Nat × List Rule) × Nat => .tup [.int p.2, eSw p.1]) (fun (ps : List ((Nat × List Rule) × Nat)) e => (∀ p ∈ ps, p.1 ∈ n.sw) ∧ ∃ o1 o2 : Option D, e = [some (eNet n), some (.int n.w), some (.lst false (n.sw.map eSw)), some (.lst false (n.ln.map eLn)), o1, o2]) n.sw.zipIdx ⟨fun p m => ?_, none, none, rfl⟩ ?_ ?_
  · obtain ⟨r, i⟩ := p
    have := List.mem_zipIdx_iff_getElem?.mp m
    exact List.mem_of_getElem? this
  · rintro ⟨s, i⟩ ps e K1 ⟨hps, o1, o2, rfl⟩ hK1
    have hs := hps _ (List.mem_cons_self ..)
    have := lookswitch_eq (k := i) hn hs
    unfold eSw at this
    simp [eSw, this]
    exact hK1 _ ⟨fun p m => hps p (List.mem_cons_of_mem _ m), _, _, rfl⟩
  · rintro e ⟨_, o1, o2, rfl⟩
    refine hK _ ?_
    clear hK
    simp [looklinks_eq hn]
end My

namespace My
open PySem L2 DL
variable {X : Xc → DL.Env → Prop}
inductive Row where
  | w (k : Nat)
  | s (d : Nat)
  | r (x : Rule)
  | l (x : Pl × Pl)
def wordsI : Row → List (List Nat)
  | .w k => wordsW k
  | .s d => wordsS d
  | .r x => wordsR x
  | .l x => wordsL x
def itemsS (s : Nat × List Rule) : List Row := .s s.1 :: s.2.map .r
def itemsN (n : Net) : List Row := .w n.w :: (n.sw.flatMap itemsS ++ n.ln.map .l)
theorem items_words {n : Net} : (itemsN n).map wordsI = wordsN n := by
  unfold itemsN wordsN
  rw [List.map_cons, List.map_append, List.map_flatMap]
  congr 2
  · refine congrArg (fun f => n.sw.flatMap f) (funext fun s => ?_)
    show wordsI (.s s.1) :: (s.2.map Row.r).map wordsI = wordsSw s
    rw [List.map_map]
    rfl
  · rw [List.map_map]
    rfl
inductive St (n : Net) : List Row → D → Prop
  | a : St n (itemsN n) (eRd none [] [])
  | b (sd rest : List (Nat × List Rule)) (d : Nat) (rd rr : List Rule) : n.sw = sd ++ (d, rd ++ rr) :: rest → St n (rr.map .r ++ (rest.flatMap itemsS ++ n.ln.map .l)) (eRd (some n.w) (sd ++ [(d, rd)]) [])
  | c (sd rest : List (Nat × List Rule)) : n.sw = sd ++ rest → St n (rest.flatMap itemsS ++ n.ln.map .l) (eRd (some n.w) sd [])
  | d (ld lr : List (Pl × Pl)) : n.ln = ld ++ lr → St n (lr.map .l) (eRd (some n.w) n.sw ld)
theorem mem_s {n : Net} {s : Nat × List Rule} (h : s ∈ n.sw) : wordsS s.1 ∈ wordsN n := by
  unfold wordsN
  exact List.mem_cons_of_mem _ (List.mem_append_left _ (List.mem_flatMap.mpr ⟨s, h, List.mem_cons_self ..⟩))
theorem mem_r {n : Net} {s : Nat × List Rule} {r : Rule} (h : s ∈ n.sw) (hr : r ∈ s.2) : wordsR r ∈ wordsN n := by
  unfold wordsN
  exact List.mem_cons_of_mem _ (List.mem_append_left _ (List.mem_flatMap.mpr ⟨s, h, List.mem_cons_of_mem _ (List.mem_map.mpr ⟨r, hr, rfl⟩)⟩))
theorem st_d {n : Net} (hn : OkN n) {a : Row} {rows : List Row} {ld lr : List (Pl × Pl)} (h : n.ln = ld ++ lr) (e : a :: rows = lr.map .l) : ∃ x', m_Reading_take [eRd (some n.w) n.sw ld, .str (rowOf (wordsI a))] = .ok (.non, x') ∧ St n rows x' := by
  cases lr with
  | nil => cases e
  | cons l lr =>
    rw [List.map_cons, List.cons.injEq] at e
    obtain ⟨rfl, rfl⟩ := e
    have hl1 := hn.l1
    have : ld.length ≤ 1000 := by
      have := congrArg List.length h
      simp at this
      omega
    exact ⟨_, take_l hn (by rw [h]; simp) this, .d (ld ++ [l]) lr (by rw [h]; simp)⟩
theorem st_c {n : Net} (hn : OkN n) {a : Row} {rows : List Row} {sd rest : List (Nat × List Rule)} (h : n.sw = sd ++ rest) (e : a :: rows = rest.flatMap itemsS ++ n.ln.map .l) : ∃ x', m_Reading_take [eRd (some n.w) sd [], .str (rowOf (wordsI a))] = .ok (.non, x') ∧ St n rows x' := by
  cases rest with
  | nil =>
    rw [List.append_nil] at h
    subst h
    exact st_d (ld := []) hn rfl e
  | cons s rest =>
    have e' : a :: rows = .s s.1 :: (s.2.map .r ++ (rest.flatMap itemsS ++ n.ln.map .l)) := by
      rw [e, List.flatMap_cons, itemsS]
      simp
    rw [List.cons.injEq] at e'
    obtain ⟨rfl, rfl⟩ := e'
    have hm : s ∈ n.sw := by rw [h]; simp
    have hs1 := hn.s1
    have : sd.length ≤ 1000 := by
      have := congrArg List.length h
      simp at this
      omega
    exact ⟨_, take_s hn (mem_s hm) (by have := (hn.d s hm).2.1; omega) this, .b sd rest s.1 [] s.2 h⟩
theorem st_step {n : Net} (hn : OkN n) {a : Row} {rows rs : List Row} {x : D} (e : a :: rows = rs) (h : St n rs x) : ∃ x', m_Reading_take [x, .str (rowOf (wordsI a))] = .ok (.non, x') ∧ St n rows x' := by
  cases h with
  | a =>
    unfold itemsN at e
    rw [List.cons.injEq] at e
    obtain ⟨rfl, rfl⟩ := e
    have hw1 := hn.w1
    exact ⟨_, take_w (by omega), .c [] n.sw rfl⟩
  | b sd rest d rd rr h =>
    cases rr with
    | nil => exact st_c (sd := sd ++ [(d, rd)]) hn (by rw [h]; simp) e
    | cons r rr =>
      have e' : a :: rows = .r r :: (rr.map .r ++ (rest.flatMap itemsS ++ n.ln.map .l)) := e
      rw [List.cons.injEq] at e'
      obtain ⟨rfl, rfl⟩ := e'
      have hm : (d, rd ++ r :: rr) ∈ n.sw := by rw [h]; simp
      obtain ⟨d1, d2, d3, d4⟩ := hn.d _ hm
      have hs1 := hn.s1
      have : sd.length ≤ 1000 := by
        have := congrArg List.length h
        simp at this
        omega
      have h3 : rd.length ≤ 1000 := by
        simp at d3
        omega
      exact ⟨_, take_r hn (mem_r hm (by simp)) (d4 r (by simp)) d2 this h3, .b sd rest d (rd ++ [r]) rr (by rw [h]; simp)⟩
  | c sd rest h => exact st_c hn h e
  | d ld lr h => exact st_d hn h e
theorem st_end {n : Net} {rs : List Row} {x : D} (e : [] = rs) (h : St n rs x) : x = eRd (some n.w) n.sw n.ln := by
  cases h with
  | a => cases e
  | b sd rest d rd rr h =>
    have e := e.symm
    rw [List.append_eq_nil_iff, List.append_eq_nil_iff] at e
    obtain ⟨e1, e2, e3⟩ := e
    have e1 := List.map_eq_nil_iff.mp e1
    have e3 := List.map_eq_nil_iff.mp e3
    subst e1
    cases rest with
    | nil => rw [h, e3]; simp
    | cons s rest => simp [itemsS] at e2
  | c sd rest h =>
    have e := e.symm
    rw [List.append_eq_nil_iff] at e
    obtain ⟨e2, e3⟩ := e
    have e3 := List.map_eq_nil_iff.mp e3
    cases rest with
    | nil => rw [h, e3]; simp
    | cons s rest => simp [itemsS] at e2
  | d ld lr h =>
    have e := List.map_eq_nil_iff.mp e.symm
    rw [h, e]
    simp
def eNetO (n : Net) : D := .tup [.int n.w, .lst true (n.sw.map eSwO), .lst true (n.ln.map eLn)]
@[simp] theorem frz_eNetO {n : Net} : frz (eNetO n) = eNet n := by
  show D.tup [.int n.w, .lst false (frzs _), .lst false (frzs _)] = _
  rw [frzs_swO, frzs_ln]
  rfl
theorem net_eq {n : Net} : m_Reading_net [frz (eRd (some n.w) n.sw n.ln)] = .ok (eNet n) := by
  refine WO.eq ?_
  unfold m_Reading_net
  rw [WO_runP (by rfl)]
  unfold g_Reading_net
  rw [frz_eRd]
  simp
  rfl
theorem mv_w {a b c : D} : xMvP 0 (pFld 0 "Reading" "own_width" (pVar 0)) [some (.obj true "Reading" FR [a, b, c])] = .ok (a, [some (.obj true "Reading" FR [.any, b, c])]) := by
  unfold xMvP
  rw [rp_w]
  simp only [List.getElem?_cons_zero]
  rw [rg_w]
  simp only []
  rw [rs_w]
  rfl
theorem mv_s {a b c : D} : xMvP 0 (pFld 0 "Reading" "own_switches" (pVar 0)) [some (.obj true "Reading" FR [a, b, c])] = .ok (b, [some (.obj true "Reading" FR [a, .any, c])]) := by
  unfold xMvP
  rw [rp_s]
  simp only [List.getElem?_cons_zero]
  rw [rg_s]
  simp only []
  rw [rs_s]
  rfl
theorem mv_l {a b c : D} : xMvP 0 (pFld 0 "Reading" "own_links" (pVar 0)) [some (.obj true "Reading" FR [a, b, c])] = .ok (c, [some (.obj true "Reading" FR [a, b, .any])]) := by
  unfold xMvP
  rw [rp_l]
  simp only [List.getElem?_cons_zero]
  rw [rg_l]
  simp only []
  rw [rs_l]
  rfl
theorem mkR : mkO "Reading" 1 m_Reading___init__ [] [] = .ok (eRd none [] []) := by
  unfold mkO
  rw [if_pos (by rfl)]
  rw [show m_Reading___init__ (.obj true "Reading" [] [] :: ([] ++ [])) = _ from initR_eq]
theorem netM_eq {n : Net} : m_Reading_netM [eRd (some n.w) n.sw n.ln] = .ok (eNetO n, .obj true "Reading" FR [.any, .any, .any]) := by
  refine WO.eq ?_
  unfold m_Reading_netM
  rw [WO_runX (by rfl)]
  unfold g_Reading_netM eRd
  simp [mv_w, mv_s, mv_l]
  rfl
theorem WS_tryN {g : FS} {r : DL.Env} {N : DL.Env → Prop} {R : D → DL.Env → Prop} (h : WS' XF (g r) N R) : WS' X (sTryN g r) N R := by
  unfold sTryN
  revert h
  cases g r with
  | exn x r' => exact fun h => h.elim
  | bad => exact id
  | _ => exact id
theorem st_ob {n : Net} {rs : List Row} {x : D} (h : St n rs x) : isOb "Reading" "take" x = true := by
  cases h <;> simp [eRd]
theorem read_eq {n : Net} (hn : OkN n) : m_read [.str (textN n)] = .ok (eNetO n) := by
  refine WO.eq ?_
  unfold m_read
  rw [WO_runP (by rfl)]
  unfold g_read
  have hl := text_len hn
  have hsp := spl_text hn
  with_reducible refine WS_step fun K hK => ?_
  simp
  refine hK _ ?_
  clear hK
  with_reducible refine WS_step fun K hK => ?_
  simp [mkR]
  refine hK _ ?_
  clear hK
  with_reducible refine WS_step fun K hK => ?_
  simp [hsp]
  refine ⟨by omega, ?_⟩
  have hrows : (rowsN n).map (fun x => D.str x) = (itemsN n).map fun a => .str (rowOf (wordsI a)) := by
    rw [rowsN, ← items_words, List.map_map, List.map_map]
    rfl
  rw [hrows]
  refine for_of (fun a => .str (rowOf (wordsI a))) (fun (rs : List Row) e => ∃ (x : D) (o : Option D), St n rs x ∧ e = [some (.str (textN n)), some x, o, none]) (itemsN n) ⟨_, none, .a, rfl⟩ ?_ ?_
  · rintro a rs e K1 ⟨x, o, hst, rfl⟩ hK1
    obtain ⟨x', e1, e2⟩ := st_step hn rfl hst
    have hob := st_ob hst
    simp
    refine WO_xMIO rfl hob ?_
    rw [WO_xIO rfl]
    simp [e1]
    exact hK1 _ ⟨x', _, e2, rfl⟩
  · rintro e ⟨x, o, hst, rfl⟩
    obtain rfl := st_end rfl hst
    refine hK _ ?_
    clear hK
    with_reducible refine WS_step fun K hK => ?_
    have hne := net_eq (n := n)
    have hob : isOb "Reading" "net" (frz (eRd (some n.w) n.sw n.ln)) = true := by rw [frz_eRd]; simp
    refine WS_tryN ?_
    simp [hne, hob, looknet_eq hn]
    refine hK _ ?_
    clear hK
    simp
    refine WO_xMIO rfl (by simp [eRd]) ?_
    rw [WO_xIO rfl]
    simp
    rw [netM_eq]
    rfl
end My

namespace My
open PySem L2 DL
variable {X : Xc → DL.Env → Prop}
def farN (x : Nat × List Nat) : Net := ⟨x.2.length, List.replicate 8 (x.1, [⟨some (x.1 - 1), x.2, List.replicate 3 (0, x.2)⟩]), []⟩
theorem far_ok {x : Nat × List Nat} (h1 : 1 ≤ x.1) (h2 : x.1 ≤ 6) (h3 : 1 ≤ x.2.length) (h4 : x.2.length ≤ 16) (h5 : IsP x.2) : OkN (farN x) := by
  refine ⟨h3, h4, by simp [farN], by simp [farN], fun s m => ?_, by simp [farN], fun l m => (nomatch m), fun l m => (nomatch m), List.nodup_nil⟩
  have m : s = _ := (List.mem_replicate.mp m).2
  subst m
  refine ⟨h1, h2, by simp, fun r m => ?_⟩
  rw [List.mem_singleton.mp m]
  refine ⟨fun k e => by cases e; omega, rfl, h5, by simp, fun o m => ?_⟩
  have m : o = _ := (List.mem_replicate.mp m).2
  subst m
  exact ⟨by show 0 < x.1; omega, rfl, h5⟩
mutual
theorem eqD_refl : ∀ d : D, plainD d = true → eqD d d = true
  | .non, _ => rfl
  | .bl b, _ => by simp [eqD]
  | .int i, _ => by simp [eqD]
  | .str x, _ => by simp [eqD]
  | .lst _ xs, h => eqDs_refl xs h
  | .tup xs, h => eqDs_refl xs h
  | .dK _ _ _, h => nomatch h
  | .dT _ _ _, h => nomatch h
  | .dN _ _ _, h => nomatch h
  | .obj _ _ _ _, h => nomatch h
  | .scr _, h => nomatch h
  | .exc _ _ _, h => nomatch h
  | .any, h => nomatch h
theorem eqDs_refl : ∀ xs : List D, plainDs xs = true → eqDs xs xs = true
  | [], _ => rfl
  | x :: xs, h => by
    simp only [plainDs, Bool.and_eq_true] at h
    rw [eqDs, eqD_refl x h.1, eqDs_refl xs h.2]
    rfl
end
@[irreducible] def farL : List (Nat × List Nat) := [(6, [49, 42, 48]), (1, [48])]
theorem far_mem : ∀ x ∈ farL, (1 ≤ x.1 ∧ x.1 ≤ 6) ∧ (1 ≤ x.2.length ∧ x.2.length ≤ 16) ∧ IsP x.2 := by
  intro x m
  unfold farL at m
  simp at m
  rcases m with rfl | rfl <;> simp [IsP]
theorem far_iter : liftI [] (iL (cFz (cLst (aCons (cTup (aCons (cK (.int 6)) (aCons (cK (.str [49, 42, 48])) aNil))) (aCons (cTup (aCons (cK (.int 1)) (aCons (cK (.str [48])) aNil))) aNil))))) = fun r => .ok (farL.map (fun x : Nat × List Nat => .tup [.int x.1, .str x.2]), r) := funext fun r => by
  have e : ∀ (k : Nat) (r : DL.Env), frzF (fun k => ([] : List Nat).contains k) k r = r := by
    intro k r
    induction r generalizing k with
    | nil => rfl
    | cons o r ih => show (if false = true then _ else o) :: _ = _; rw [ih]; rfl
  simp [liftI, farL]
  exact e 0 r
def farD (x : Nat × List Nat) : D := .tup [.int x.2.length, .lst true (List.replicate 8 (.tup [.int x.1, .lst false [.tup [.int ((x.1 - 1 : Nat) : Int), .str x.2, .lst false (List.replicate 3 (.tup [.int 0, .str x.2]))]]])), .lst true []]
theorem frz_farD {x : Nat × List Nat} : frz (farD x) = eNet (farN x) := by
  simp [farD, eNet, farN, eSw, eRule, eO, eOut, List.replicate]
theorem law_holds (ns : List Int) (hn : ns.length ≤ 63) : m_law [.scr ns] = .ok (.bl true) := by
  refine WO.eq ?_
  unfold m_law
  rw [WO_runP (by rfl)]
  unfold g_law
  refine WS_step fun K0 hK0 => ?_
  simp
  have hj := cells (ns := ns) 10 (by omega) (by omega) _ rfl
  generalize hx : (if 1 < if 10 < (ns.length : Int) then 10 else (ns.length : Int) then if 10 < (ns.length : Int) then 10 else (ns.length : Int) else 1) = x at hj ⊢
  refine ⟨by omega, ?_⟩
  rw [rng_map]
  refine for_of _ (fun (ks : List Nat) r => (∀ k ∈ ks, k ≤ 100) ∧ ∃ o1 o2 o3 o4 o5 o6 o7 o8 o9 o10 o11, r = [some (.scr ns), o1, o2, o3, o4, o5, o6, o7, o8, o9, o10, o11]) _ ?_ ?_ ?_
  · refine ⟨fun k hk => ?_, _, _, _, _, _, _, _, _, _, _, _, rfl⟩
    simp at hk
    omega
  · rintro k ks r K ⟨hk, o1, o2, o3, o4, o5, o6, o7, o8, o9, o10, o11, rfl⟩ hK
    have hk0 := hk k (List.mem_cons_self ..)
    have hend : ∀ r, (∃ o1 o2 o3 o4 o5 o6 o7 o8 o9 o10 o11, r = [some (.scr ns), o1, o2, o3, o4, o5, o6, o7, o8, o9, o10, o11]) → K r := fun r z => hK r ⟨fun k m => hk k (List.mem_cons_of_mem _ m), z⟩
    clear hK
    simp only [sN_eq, List.length_cons, List.length_nil]
    rw [if_pos (by decide), WO_ok]
    with_reducible refine WT_step fun K1 hK1 => ?_
    simp
    refine pool_spec (by omega) (by omega) fun p hp => hK1 _ ?_
    clear hK1
    with_reducible refine WT_step fun K1 hK1 => ?_
    simp
    refine take_spec hp (by omega) (by omega) fun x p h3 hp => ?_
    obtain ⟨w, hw⟩ : ∃ w : Nat, (1 + x : Int) = w := ⟨1 + x, by omega⟩
    simp [hw]
    refine lnet_spec (most := 4) hp (by omega) (by omega) (by omega) (by omega) fun n p hN hnw hss hsl hp => ?_
    simp
    refine hK1 _ ?_
    clear hK1
    have hrp := repr_net hN
    have hwr := written_eq hN
    have hsh := shown_eq hN
    have hrd := read_eq hN
    with_reducible refine WT_step fun K1 hK1 => ?_
    simp [hrp]
    refine hK1 _ ?_
    clear hK1
    with_reducible refine WT_step fun K1 hK1 => ?_
    simp [hwr]
    refine hK1 _ ?_
    clear hK1
    with_reducible refine WT_step fun K1 hK1 => ?_
    simp [hsh, hrp]
    refine hK1 _ ?_
    clear hK1
    with_reducible refine WT_step fun K1 hK1 => ?_
    rw [WT_for]
    simp
    rw [show rng 0 2 = ([0, 1] : List Nat).map (fun j => D.int (j : Nat)) from rfl]
    refine for_of _ (fun (js : List Nat) r => ∃ o6 o8 o10 o11, r = [some (.scr ns), some (.int k), some p, some (eNet n), some (.str (reprL (eNet n))), some (.str (textN n)), o6, o7, o8, o9, o10, o11]) _ ?_ ?_ ?_
    · exact ⟨_, _, _, _, rfl⟩
    · rintro j js r K2 ⟨o6, o8, o10, o11, rfl⟩ hK2
      simp only [sN_eq, List.length_cons, List.length_nil]
      rw [if_pos (by decide), WO_ok]
      with_reducible refine WT_step fun K3 hK3 => ?_
      simp [hrd]
      refine hK3 _ ?_
      clear hK3
      with_reducible refine WT_step fun K3 hK3 => ?_
      simp [hrp]
      refine hK3 _ ?_
      clear hK3
      with_reducible refine WT_step fun K3 hK3 => ?_
      simp
      have hl1 := hN.l1
      refine WO_appP' (π := [.ix 2]) (x := .non) (es := n.ln.map eLn) rfl rfl rfl rfl rfl rfl (by simp; omega) ?_
      refine hK3 _ ?_
      clear hK3
      have e1 : setP [.ix 2] (.lst true (n.ln.map eLn ++ [.non])) (eNetO n) = .tup [.int n.w, .lst true (n.sw.map eSwO), .lst true (n.ln.map eLn ++ [.non])] := rfl
      with_reducible refine WT_step fun K3 hK3 => ?_
      refine WT_forM (π := [.ix 1]) (xs := n.sw.map eSwO) rfl rfl rfl ?_
      refine for_of eSwO (fun (ss : List (Nat × List Rule)) r => (∀ s ∈ ss, s ∈ n.sw) ∧ ∃ o10 o11, r = [some (.scr ns), some (.int k), some p, some (eNet n), some (.str (reprL (eNet n))), some (.str (textN n)), some (.int (j : Nat)), o7, some .any, o9, o10, o11]) n.sw ⟨fun _ m => m, _, _, rfl⟩ ?_ ?_
      · rintro s ss r K4 ⟨hsm, o10, o11, rfl⟩ hK4
        have hs := hsm s (List.mem_cons_self ..)
        have tg : sT 2 (sCons (sN 10) (sCons (sN 11) sNil)) (eSwO s) [some (.scr ns), some (.int k), some p, some (eNet n), some (.str (reprL (eNet n))), some (.str (textN n)), some (.int (j : Nat)), o7, some .any, o9, o10, o11] = .ok [some (.scr ns), some (.int k), some p, some (eNet n), some (.str (reprL (eNet n))), some (.str (textN n)), some (.int (j : Nat)), o7, some .any, o9, some (.int s.1), some (.lst true (s.2.map eRuleO))] := rfl
        rw [tg, WO_ok]
        with_reducible refine WT_step fun K5 hK5 => ?_
        have fin : ∀ d : D, (∃ rs, d = .lst true rs) → K5 [some (.scr ns), some (.int k), some p, some (eNet n), some (.str (reprL (eNet n))), some (.str (textN n)), some (.int (j : Nat)), o7, some .any, o9, some (.int s.1), some d] := by
          rintro d ⟨rs, rfl⟩
          refine hK5 _ ?_
          clear hK5
          simp [sClrP, pVar, getP, setP]
          exact hK4 _ ⟨fun s m => hsm s (List.mem_cons_of_mem _ m), _, _, rfl⟩
        obtain ⟨d, rs⟩ := s
        cases rs with
        | nil =>
          simp [eqD]
          exact fin _ ⟨_, rfl⟩
        | cons x rs =>
          have hex : eqD (.lst false (eRule x :: rs.map eRule)) (.lst false []) = false := rfl
          simp [hex]
          have hout : x.outs.length < 1000000 := by
            have := ((hN.d _ hs).2.2.2 x (by simp)).ol
            omega
          have pp : pIx 11 [] (pIx 11 [] (pVar 11) (cK (.int 0))) (cK (.int 2)) [some (.scr ns), some (.int k), some p, some (eNet n), some (.str (reprL (eNet n))), some (.str (textN n)), some (.int (j : Nat)), o7, some .any, o9, some (.int d), some (.lst true (eRuleO x :: rs.map eRuleO))] = .ok [.ix 0, .ix 2] := by
            have p1 : pIx 11 [] (pVar 11) (cK (.int 0)) [some (.scr ns), some (.int k), some p, some (eNet n), some (.str (reprL (eNet n))), some (.str (textN n)), some (.int (j : Nat)), o7, some .any, o9, some (.int d), some (.lst true (eRuleO x :: rs.map eRuleO))] = .ok [.ix 0] := by
              simp [pIx, pVar, itsP, getP, ixN]
            rw [pIx, p1]
            rfl
          refine WO_appP' (π := [.ix 0, .ix 2]) (x := .non) (es := x.outs.map eOut) pp rfl rfl rfl rfl rfl (by simpa using hout) ?_
          exact fin _ ⟨_, rfl⟩
      · rintro r ⟨_, o10, o11, rfl⟩
        refine hK3 _ ?_
        clear hK3
        have e2 : setP [.ix 1] (.lst true (anyL (n.sw.map eSwO))) (setP [.ix 2] (.lst true (n.ln.map eLn ++ [.non])) (eNetO n)) = .tup [.int n.w, .lst true (anyL (n.sw.map eSwO)), .lst true (n.ln.map eLn ++ [.non])] := rfl
        rw [e2]
        have pc : pIx 8 [] (pVar 8) (cK (.int 1)) [some (.scr ns), some (.int k), some p, some (eNet n), some (.str (reprL (eNet n))), some (.str (textN n)), some (.int (j : Nat)), o7, some (.tup [.int n.w, .lst true (anyL (n.sw.map eSwO)), .lst true (n.ln.map eLn ++ [.non])]), o9, o10, o11] = .ok [.ix 1] := rfl
        simp [sClrP, pc, getP, setP]
        exact hK2 _ ⟨_, _, _, _, rfl⟩
    · rintro r ⟨o6, o8, o10, o11, rfl⟩
      refine hK1 _ ?_
      clear hK1
      rw [far_iter]
      rw [WT_for]
      with_reducible refine WO_ok.mpr ?_
      refine for_of (fun x : Nat × List Nat => .tup [.int x.1, .str x.2]) (fun xs r => (∀ x ∈ xs, (1 ≤ x.1 ∧ x.1 ≤ 6) ∧ (1 ≤ x.2.length ∧ x.2.length ≤ 16) ∧ IsP x.2) ∧ ∃ o7 o9, r = [some (.scr ns), some (.int k), some p, some (eNet n), some (.str (reprL (eNet n))), some (.str (textN n)), o6, o7, o8, o9, o10, o11]) farL ⟨far_mem, _, _, rfl⟩ ?_ ?_
      · rintro x xs r K2 ⟨hxs, o7, o9, rfl⟩ hK2
        obtain ⟨⟨h1, h2⟩, ⟨h3, h4⟩, h5⟩ := hxs x (List.mem_cons_self ..)
        have hF := far_ok h1 h2 h3 h4 h5
        simp only [sN_eq, List.length_cons, List.length_nil]
        rw [if_pos (by decide), WO_ok]
        have hx1 : (x.1 : Int) - 1 = ((x.1 - 1 : Nat) : Int) := by omega
        with_reducible refine WT_step fun K3 hK3 => ?_
        simp [hx1]
        refine ⟨by omega, ?_⟩
        have go : K3 [some (.scr ns), some (.int k), some p, some (eNet n), some (.str (reprL (eNet n))), some (.str (textN n)), o6, some (.tup [.int x.1, .str x.2]), o8, some (farD x), o10, o11] := by
          refine hK3 _ ?_
          clear hK3
          simp [frz_farD, shown_eq hF, read_eq hF, written_eq hF]
          exact ⟨eqD_refl _ plain_eNet, hK2 _ ⟨fun x m => hxs x (List.mem_cons_of_mem _ m), _, _, rfl⟩⟩
        exact go
      · rintro r ⟨_, o7, o9, rfl⟩
        exact hend _ ⟨_, _, _, _, _, _, _, _, _, _, _, rfl⟩
  · rintro r ⟨_, o1, o2, o3, o4, o5, o6, o7, o8, o9, o10, o11, rfl⟩
    refine hK0 _ ?_
    simp
end My

namespace My
open PySem L2 DL
set_option maxHeartbeats 4000000 in
theorem all_mk {l : PySem.W.OpenLaw} (hlaw : ∀ ns : List Int, ns.length ≤ 63 → m_law [.scr ns] = .ok (.bl true)) {w : World} {K : PySem.W.Frag} {h : Heap} {mg : Str → Option Value} {fa : Addr} (X : K.In h) (G : h.Ns mainGlobals mg) (hfa : mg "law" = some (.ref fa))
    {a_Reading : Addr} (ag_Reading : PySem.W.nsIn K mainGlobals "Reading" = some (some (.ref a_Reading)))
    (oc1_Reading : PySem.W.plainGet K a_Reading Str.empty = true)
    (oc2_Reading : PySem.W.hasDictIn K a_Reading = true)
    (oc3_Reading : PySem.W.plainOver K a_Reading = true)
    (oc4_Reading : PySem.W.findIn K (.ref a_Reading) "__setattr__" = some (some (.builtin "object.__setattr__")))
    (oh1_Reading : PySem.W.findIn K (.ref a_Reading) "__class__" = some (some (.builtin "object.__class__")))
    (oh2_Reading : PySem.W.specialIn K (.builtin "object.__class__") "__get__" = some (some (.builtin "getset_descriptor.__get__")))
    (oh3_Reading : PySem.W.takesIn K (.builtin "object.__class__") = some true)
    (oh5_Reading : PySem.W.mroIn K a_Reading (.type "object") = some true)
    (ot_int_Reading : PySem.W.kitOne K (.ref a_Reading) (.type "int") = some false)
    (ot_bool_Reading : PySem.W.kitOne K (.ref a_Reading) (.type "bool") = some false)
    (ot_str_Reading : PySem.W.kitOne K (.ref a_Reading) (.type "str") = some false)
    (ot_list_Reading : PySem.W.kitOne K (.ref a_Reading) (.type "list") = some false)
    (ot_tuple_Reading : PySem.W.kitOne K (.ref a_Reading) (.type "tuple") = some false)
    (ot_dict_Reading : PySem.W.kitOne K (.ref a_Reading) (.type "dict") = some false)
    (mk_Reading : PySem.W.makesIn K a_Reading = true)
    (kc_Reading : PySem.W.keepIn K (.ref a_Reading) = true)
    {f__law_cell_at : Addr} {od__law_cell_at an__law_cell_at : Option Addr} {sl__law_cell_at : Array (Option Value)} {oc__law_cell_at kV__law_cell_at dc__law_cell_at pm__law_cell_at cd__law_cell_at ct__law_cell_at : Value}
    (a__law_cell_at : PySem.W.nsIn K mainGlobals "_law_cell_at" = some (some (.ref f__law_cell_at))) (l__law_cell_at : K.lookup f__law_cell_at = some ⟨oc__law_cell_at, od__law_cell_at, .func (PySem.W.fnOf "_law_cell_at" "_law_cell_at" (defArgs s__law_cell_at) (defBody s__law_cell_at) (defScope s__law_cell_at) .none kV__law_cell_at dc__law_cell_at pm__law_cell_at an__law_cell_at cd__law_cell_at ct__law_cell_at), sl__law_cell_at⟩) (c__law_cell_at : PySem.W.codeIn K cd__law_cell_at "_law_cell_at" = true) (k__law_cell_at : PySem.W.keepIn K (.ref f__law_cell_at) = true)
    {f__law_pool : Addr} {od__law_pool an__law_pool : Option Addr} {sl__law_pool : Array (Option Value)} {oc__law_pool kV__law_pool dc__law_pool pm__law_pool cd__law_pool ct__law_pool : Value}
    (a__law_pool : PySem.W.nsIn K mainGlobals "_law_pool" = some (some (.ref f__law_pool))) (l__law_pool : K.lookup f__law_pool = some ⟨oc__law_pool, od__law_pool, .func (PySem.W.fnOf "_law_pool" "_law_pool" (defArgs s__law_pool) (defBody s__law_pool) (defScope s__law_pool) .none kV__law_pool dc__law_pool pm__law_pool an__law_pool cd__law_pool ct__law_pool), sl__law_pool⟩) (c__law_pool : PySem.W.codeIn K cd__law_pool "_law_pool" = true) (k__law_pool : PySem.W.keepIn K (.ref f__law_pool) = true)
    {f__law_take : Addr} {od__law_take an__law_take : Option Addr} {sl__law_take : Array (Option Value)} {oc__law_take kV__law_take dc__law_take pm__law_take cd__law_take ct__law_take : Value}
    (a__law_take : PySem.W.nsIn K mainGlobals "_law_take" = some (some (.ref f__law_take))) (l__law_take : K.lookup f__law_take = some ⟨oc__law_take, od__law_take, .func (PySem.W.fnOf "_law_take" "_law_take" (defArgs s__law_take) (defBody s__law_take) (defScope s__law_take) .none kV__law_take dc__law_take pm__law_take an__law_take cd__law_take ct__law_take), sl__law_take⟩) (c__law_take : PySem.W.codeIn K cd__law_take "_law_take" = true) (k__law_take : PySem.W.keepIn K (.ref f__law_take) = true)
    {f__law_text : Addr} {od__law_text an__law_text : Option Addr} {sl__law_text : Array (Option Value)} {oc__law_text kV__law_text dc__law_text pm__law_text cd__law_text ct__law_text : Value}
    (a__law_text : PySem.W.nsIn K mainGlobals "_law_text" = some (some (.ref f__law_text))) (l__law_text : K.lookup f__law_text = some ⟨oc__law_text, od__law_text, .func (PySem.W.fnOf "_law_text" "_law_text" (defArgs s__law_text) (defBody s__law_text) (defScope s__law_text) .none kV__law_text dc__law_text pm__law_text an__law_text cd__law_text ct__law_text), sl__law_text⟩) (c__law_text : PySem.W.codeIn K cd__law_text "_law_text" = true) (k__law_text : PySem.W.keepIn K (.ref f__law_text) = true)
    {f__law_pattern : Addr} {od__law_pattern an__law_pattern : Option Addr} {sl__law_pattern : Array (Option Value)} {oc__law_pattern kV__law_pattern dc__law_pattern pm__law_pattern cd__law_pattern ct__law_pattern : Value}
    (a__law_pattern : PySem.W.nsIn K mainGlobals "_law_pattern" = some (some (.ref f__law_pattern))) (l__law_pattern : K.lookup f__law_pattern = some ⟨oc__law_pattern, od__law_pattern, .func (PySem.W.fnOf "_law_pattern" "_law_pattern" (defArgs s__law_pattern) (defBody s__law_pattern) (defScope s__law_pattern) .none kV__law_pattern dc__law_pattern pm__law_pattern an__law_pattern cd__law_pattern ct__law_pattern), sl__law_pattern⟩) (c__law_pattern : PySem.W.codeIn K cd__law_pattern "_law_pattern" = true) (k__law_pattern : PySem.W.keepIn K (.ref f__law_pattern) = true)
    {f__law_rule : Addr} {od__law_rule an__law_rule : Option Addr} {sl__law_rule : Array (Option Value)} {oc__law_rule kV__law_rule dc__law_rule pm__law_rule cd__law_rule ct__law_rule : Value}
    (a__law_rule : PySem.W.nsIn K mainGlobals "_law_rule" = some (some (.ref f__law_rule))) (l__law_rule : K.lookup f__law_rule = some ⟨oc__law_rule, od__law_rule, .func (PySem.W.fnOf "_law_rule" "_law_rule" (defArgs s__law_rule) (defBody s__law_rule) (defScope s__law_rule) .none kV__law_rule dc__law_rule pm__law_rule an__law_rule cd__law_rule ct__law_rule), sl__law_rule⟩) (c__law_rule : PySem.W.codeIn K cd__law_rule "_law_rule" = true) (k__law_rule : PySem.W.keepIn K (.ref f__law_rule) = true)
    {f__law_net : Addr} {od__law_net an__law_net : Option Addr} {sl__law_net : Array (Option Value)} {oc__law_net kV__law_net dc__law_net pm__law_net cd__law_net ct__law_net : Value}
    (a__law_net : PySem.W.nsIn K mainGlobals "_law_net" = some (some (.ref f__law_net))) (l__law_net : K.lookup f__law_net = some ⟨oc__law_net, od__law_net, .func (PySem.W.fnOf "_law_net" "_law_net" (defArgs s__law_net) (defBody s__law_net) (defScope s__law_net) .none kV__law_net dc__law_net pm__law_net an__law_net cd__law_net ct__law_net), sl__law_net⟩) (c__law_net : PySem.W.codeIn K cd__law_net "_law_net" = true) (k__law_net : PySem.W.keepIn K (.ref f__law_net) = true)
    {f__law_rule_row : Addr} {od__law_rule_row an__law_rule_row : Option Addr} {sl__law_rule_row : Array (Option Value)} {oc__law_rule_row kV__law_rule_row dc__law_rule_row pm__law_rule_row cd__law_rule_row ct__law_rule_row : Value}
    (a__law_rule_row : PySem.W.nsIn K mainGlobals "_law_rule_row" = some (some (.ref f__law_rule_row))) (l__law_rule_row : K.lookup f__law_rule_row = some ⟨oc__law_rule_row, od__law_rule_row, .func (PySem.W.fnOf "_law_rule_row" "_law_rule_row" (defArgs s__law_rule_row) (defBody s__law_rule_row) (defScope s__law_rule_row) .none kV__law_rule_row dc__law_rule_row pm__law_rule_row an__law_rule_row cd__law_rule_row ct__law_rule_row), sl__law_rule_row⟩) (c__law_rule_row : PySem.W.codeIn K cd__law_rule_row "_law_rule_row" = true) (k__law_rule_row : PySem.W.keepIn K (.ref f__law_rule_row) = true)
    {f__law_spot : Addr} {od__law_spot an__law_spot : Option Addr} {sl__law_spot : Array (Option Value)} {oc__law_spot kV__law_spot dc__law_spot pm__law_spot cd__law_spot ct__law_spot : Value}
    (a__law_spot : PySem.W.nsIn K mainGlobals "_law_spot" = some (some (.ref f__law_spot))) (l__law_spot : K.lookup f__law_spot = some ⟨oc__law_spot, od__law_spot, .func (PySem.W.fnOf "_law_spot" "_law_spot" (defArgs s__law_spot) (defBody s__law_spot) (defScope s__law_spot) .none kV__law_spot dc__law_spot pm__law_spot an__law_spot cd__law_spot ct__law_spot), sl__law_spot⟩) (c__law_spot : PySem.W.codeIn K cd__law_spot "_law_spot" = true) (k__law_spot : PySem.W.keepIn K (.ref f__law_spot) = true)
    {f__law_written : Addr} {od__law_written an__law_written : Option Addr} {sl__law_written : Array (Option Value)} {oc__law_written kV__law_written dc__law_written pm__law_written cd__law_written ct__law_written : Value}
    (a__law_written : PySem.W.nsIn K mainGlobals "_law_written" = some (some (.ref f__law_written))) (l__law_written : K.lookup f__law_written = some ⟨oc__law_written, od__law_written, .func (PySem.W.fnOf "_law_written" "_law_written" (defArgs s__law_written) (defBody s__law_written) (defScope s__law_written) .none kV__law_written dc__law_written pm__law_written an__law_written cd__law_written ct__law_written), sl__law_written⟩) (c__law_written : PySem.W.codeIn K cd__law_written "_law_written" = true) (k__law_written : PySem.W.keepIn K (.ref f__law_written) = true)
    {f_Reading___init__ : Addr} {od_Reading___init__ an_Reading___init__ : Option Addr} {sl_Reading___init__ : Array (Option Value)} {oc_Reading___init__ kV_Reading___init__ dc_Reading___init__ pm_Reading___init__ cd_Reading___init__ ct_Reading___init__ : Value}
    (a_Reading___init__ : PySem.W.findIn K (.ref a_Reading) "__init__" = some (some (.ref f_Reading___init__))) (i_Reading___init__ : PySem.W.isFn K (.ref f_Reading___init__) = true) (l_Reading___init__ : K.lookup f_Reading___init__ = some ⟨oc_Reading___init__, od_Reading___init__, .func (PySem.W.fnOf "__init__" "Reading.__init__" (defArgs s_Reading___init__) (defBody s_Reading___init__) (defScope s_Reading___init__) .none kV_Reading___init__ dc_Reading___init__ pm_Reading___init__ an_Reading___init__ cd_Reading___init__ ct_Reading___init__), sl_Reading___init__⟩) (c_Reading___init__ : PySem.W.codeIn K cd_Reading___init__ "Reading.__init__" = true) (k_Reading___init__ : PySem.W.keepIn K (.ref f_Reading___init__) = true)
    {f_Reading_netM : Addr} {od_Reading_netM an_Reading_netM : Option Addr} {sl_Reading_netM : Array (Option Value)} {oc_Reading_netM kV_Reading_netM dc_Reading_netM pm_Reading_netM cd_Reading_netM ct_Reading_netM : Value}
    (a_Reading_netM : PySem.W.findIn K (.ref a_Reading) "net" = some (some (.ref f_Reading_netM))) (i_Reading_netM : PySem.W.isFn K (.ref f_Reading_netM) = true) (l_Reading_netM : K.lookup f_Reading_netM = some ⟨oc_Reading_netM, od_Reading_netM, .func (PySem.W.fnOf "net" "Reading.net" (defArgs s_Reading_netM) (defBody s_Reading_netM) (defScope s_Reading_netM) .none kV_Reading_netM dc_Reading_netM pm_Reading_netM an_Reading_netM cd_Reading_netM ct_Reading_netM), sl_Reading_netM⟩) (c_Reading_netM : PySem.W.codeIn K cd_Reading_netM "Reading.net" = true) (k_Reading_netM : PySem.W.keepIn K (.ref f_Reading_netM) = true)
    {f_number_of : Addr} {od_number_of an_number_of : Option Addr} {sl_number_of : Array (Option Value)} {oc_number_of kV_number_of dc_number_of pm_number_of cd_number_of ct_number_of : Value}
    (a_number_of : PySem.W.nsIn K mainGlobals "number_of" = some (some (.ref f_number_of))) (l_number_of : K.lookup f_number_of = some ⟨oc_number_of, od_number_of, .func (PySem.W.fnOf "number_of" "number_of" (defArgs s_number_of) (defBody s_number_of) (defScope s_number_of) .none kV_number_of dc_number_of pm_number_of an_number_of cd_number_of ct_number_of), sl_number_of⟩) (c_number_of : PySem.W.codeIn K cd_number_of "number_of" = true) (k_number_of : PySem.W.keepIn K (.ref f_number_of) = true)
    {f_Reading_take_width : Addr} {od_Reading_take_width an_Reading_take_width : Option Addr} {sl_Reading_take_width : Array (Option Value)} {oc_Reading_take_width kV_Reading_take_width dc_Reading_take_width pm_Reading_take_width cd_Reading_take_width ct_Reading_take_width : Value}
    (a_Reading_take_width : PySem.W.findIn K (.ref a_Reading) "take_width" = some (some (.ref f_Reading_take_width))) (i_Reading_take_width : PySem.W.isFn K (.ref f_Reading_take_width) = true) (l_Reading_take_width : K.lookup f_Reading_take_width = some ⟨oc_Reading_take_width, od_Reading_take_width, .func (PySem.W.fnOf "take_width" "Reading.take_width" (defArgs s_Reading_take_width) (defBody s_Reading_take_width) (defScope s_Reading_take_width) .none kV_Reading_take_width dc_Reading_take_width pm_Reading_take_width an_Reading_take_width cd_Reading_take_width ct_Reading_take_width), sl_Reading_take_width⟩) (c_Reading_take_width : PySem.W.codeIn K cd_Reading_take_width "Reading.take_width" = true) (k_Reading_take_width : PySem.W.keepIn K (.ref f_Reading_take_width) = true)
    {f_Reading_take_switch : Addr} {od_Reading_take_switch an_Reading_take_switch : Option Addr} {sl_Reading_take_switch : Array (Option Value)} {oc_Reading_take_switch kV_Reading_take_switch dc_Reading_take_switch pm_Reading_take_switch cd_Reading_take_switch ct_Reading_take_switch : Value}
    (a_Reading_take_switch : PySem.W.findIn K (.ref a_Reading) "take_switch" = some (some (.ref f_Reading_take_switch))) (i_Reading_take_switch : PySem.W.isFn K (.ref f_Reading_take_switch) = true) (l_Reading_take_switch : K.lookup f_Reading_take_switch = some ⟨oc_Reading_take_switch, od_Reading_take_switch, .func (PySem.W.fnOf "take_switch" "Reading.take_switch" (defArgs s_Reading_take_switch) (defBody s_Reading_take_switch) (defScope s_Reading_take_switch) .none kV_Reading_take_switch dc_Reading_take_switch pm_Reading_take_switch an_Reading_take_switch cd_Reading_take_switch ct_Reading_take_switch), sl_Reading_take_switch⟩) (c_Reading_take_switch : PySem.W.codeIn K cd_Reading_take_switch "Reading.take_switch" = true) (k_Reading_take_switch : PySem.W.keepIn K (.ref f_Reading_take_switch) = true)
    {f_place_of : Addr} {od_place_of an_place_of : Option Addr} {sl_place_of : Array (Option Value)} {oc_place_of kV_place_of dc_place_of pm_place_of cd_place_of ct_place_of : Value}
    (a_place_of : PySem.W.nsIn K mainGlobals "place_of" = some (some (.ref f_place_of))) (l_place_of : K.lookup f_place_of = some ⟨oc_place_of, od_place_of, .func (PySem.W.fnOf "place_of" "place_of" (defArgs s_place_of) (defBody s_place_of) (defScope s_place_of) .none kV_place_of dc_place_of pm_place_of an_place_of cd_place_of ct_place_of), sl_place_of⟩) (c_place_of : PySem.W.codeIn K cd_place_of "place_of" = true) (k_place_of : PySem.W.keepIn K (.ref f_place_of) = true)
    {f_Reading_take_link : Addr} {od_Reading_take_link an_Reading_take_link : Option Addr} {sl_Reading_take_link : Array (Option Value)} {oc_Reading_take_link kV_Reading_take_link dc_Reading_take_link pm_Reading_take_link cd_Reading_take_link ct_Reading_take_link : Value}
    (a_Reading_take_link : PySem.W.findIn K (.ref a_Reading) "take_link" = some (some (.ref f_Reading_take_link))) (i_Reading_take_link : PySem.W.isFn K (.ref f_Reading_take_link) = true) (l_Reading_take_link : K.lookup f_Reading_take_link = some ⟨oc_Reading_take_link, od_Reading_take_link, .func (PySem.W.fnOf "take_link" "Reading.take_link" (defArgs s_Reading_take_link) (defBody s_Reading_take_link) (defScope s_Reading_take_link) .none kV_Reading_take_link dc_Reading_take_link pm_Reading_take_link an_Reading_take_link cd_Reading_take_link ct_Reading_take_link), sl_Reading_take_link⟩) (c_Reading_take_link : PySem.W.codeIn K cd_Reading_take_link "Reading.take_link" = true) (k_Reading_take_link : PySem.W.keepIn K (.ref f_Reading_take_link) = true)
    {f_is_signs : Addr} {od_is_signs an_is_signs : Option Addr} {sl_is_signs : Array (Option Value)} {oc_is_signs kV_is_signs dc_is_signs pm_is_signs cd_is_signs ct_is_signs : Value}
    (a_is_signs : PySem.W.nsIn K mainGlobals "is_signs" = some (some (.ref f_is_signs))) (l_is_signs : K.lookup f_is_signs = some ⟨oc_is_signs, od_is_signs, .func (PySem.W.fnOf "is_signs" "is_signs" (defArgs s_is_signs) (defBody s_is_signs) (defScope s_is_signs) .none kV_is_signs dc_is_signs pm_is_signs an_is_signs cd_is_signs ct_is_signs), sl_is_signs⟩) (c_is_signs : PySem.W.codeIn K cd_is_signs "is_signs" = true) (k_is_signs : PySem.W.keepIn K (.ref f_is_signs) = true)
    {f_out_of : Addr} {od_out_of an_out_of : Option Addr} {sl_out_of : Array (Option Value)} {oc_out_of kV_out_of dc_out_of pm_out_of cd_out_of ct_out_of : Value}
    (a_out_of : PySem.W.nsIn K mainGlobals "out_of" = some (some (.ref f_out_of))) (l_out_of : K.lookup f_out_of = some ⟨oc_out_of, od_out_of, .func (PySem.W.fnOf "out_of" "out_of" (defArgs s_out_of) (defBody s_out_of) (defScope s_out_of) .none kV_out_of dc_out_of pm_out_of an_out_of cd_out_of ct_out_of), sl_out_of⟩) (c_out_of : PySem.W.codeIn K cd_out_of "out_of" = true) (k_out_of : PySem.W.keepIn K (.ref f_out_of) = true)
    {f_rule_of : Addr} {od_rule_of an_rule_of : Option Addr} {sl_rule_of : Array (Option Value)} {oc_rule_of kV_rule_of dc_rule_of pm_rule_of cd_rule_of ct_rule_of : Value}
    (a_rule_of : PySem.W.nsIn K mainGlobals "rule_of" = some (some (.ref f_rule_of))) (l_rule_of : K.lookup f_rule_of = some ⟨oc_rule_of, od_rule_of, .func (PySem.W.fnOf "rule_of" "rule_of" (defArgs s_rule_of) (defBody s_rule_of) (defScope s_rule_of) .none kV_rule_of dc_rule_of pm_rule_of an_rule_of cd_rule_of ct_rule_of), sl_rule_of⟩) (c_rule_of : PySem.W.codeIn K cd_rule_of "rule_of" = true) (k_rule_of : PySem.W.keepIn K (.ref f_rule_of) = true)
    {f_Reading_take_rule : Addr} {od_Reading_take_rule an_Reading_take_rule : Option Addr} {sl_Reading_take_rule : Array (Option Value)} {oc_Reading_take_rule kV_Reading_take_rule dc_Reading_take_rule pm_Reading_take_rule cd_Reading_take_rule ct_Reading_take_rule : Value}
    (a_Reading_take_rule : PySem.W.findIn K (.ref a_Reading) "take_rule" = some (some (.ref f_Reading_take_rule))) (i_Reading_take_rule : PySem.W.isFn K (.ref f_Reading_take_rule) = true) (l_Reading_take_rule : K.lookup f_Reading_take_rule = some ⟨oc_Reading_take_rule, od_Reading_take_rule, .func (PySem.W.fnOf "take_rule" "Reading.take_rule" (defArgs s_Reading_take_rule) (defBody s_Reading_take_rule) (defScope s_Reading_take_rule) .none kV_Reading_take_rule dc_Reading_take_rule pm_Reading_take_rule an_Reading_take_rule cd_Reading_take_rule ct_Reading_take_rule), sl_Reading_take_rule⟩) (c_Reading_take_rule : PySem.W.codeIn K cd_Reading_take_rule "Reading.take_rule" = true) (k_Reading_take_rule : PySem.W.keepIn K (.ref f_Reading_take_rule) = true)
    {f_Reading_take : Addr} {od_Reading_take an_Reading_take : Option Addr} {sl_Reading_take : Array (Option Value)} {oc_Reading_take kV_Reading_take dc_Reading_take pm_Reading_take cd_Reading_take ct_Reading_take : Value}
    (a_Reading_take : PySem.W.findIn K (.ref a_Reading) "take" = some (some (.ref f_Reading_take))) (i_Reading_take : PySem.W.isFn K (.ref f_Reading_take) = true) (l_Reading_take : K.lookup f_Reading_take = some ⟨oc_Reading_take, od_Reading_take, .func (PySem.W.fnOf "take" "Reading.take" (defArgs s_Reading_take) (defBody s_Reading_take) (defScope s_Reading_take) .none kV_Reading_take dc_Reading_take pm_Reading_take an_Reading_take cd_Reading_take ct_Reading_take), sl_Reading_take⟩) (c_Reading_take : PySem.W.codeIn K cd_Reading_take "Reading.take" = true) (k_Reading_take : PySem.W.keepIn K (.ref f_Reading_take) = true)
    {f_is_whole : Addr} {od_is_whole an_is_whole : Option Addr} {sl_is_whole : Array (Option Value)} {oc_is_whole kV_is_whole dc_is_whole pm_is_whole cd_is_whole ct_is_whole : Value}
    (a_is_whole : PySem.W.nsIn K mainGlobals "is_whole" = some (some (.ref f_is_whole))) (l_is_whole : K.lookup f_is_whole = some ⟨oc_is_whole, od_is_whole, .func (PySem.W.fnOf "is_whole" "is_whole" (defArgs s_is_whole) (defBody s_is_whole) (defScope s_is_whole) .none kV_is_whole dc_is_whole pm_is_whole an_is_whole cd_is_whole ct_is_whole), sl_is_whole⟩) (c_is_whole : PySem.W.codeIn K cd_is_whole "is_whole" = true) (k_is_whole : PySem.W.keepIn K (.ref f_is_whole) = true)
    {f_is_below : Addr} {od_is_below an_is_below : Option Addr} {sl_is_below : Array (Option Value)} {oc_is_below kV_is_below dc_is_below pm_is_below cd_is_below ct_is_below : Value}
    (a_is_below : PySem.W.nsIn K mainGlobals "is_below" = some (some (.ref f_is_below))) (l_is_below : K.lookup f_is_below = some ⟨oc_is_below, od_is_below, .func (PySem.W.fnOf "is_below" "is_below" (defArgs s_is_below) (defBody s_is_below) (defScope s_is_below) .none kV_is_below dc_is_below pm_is_below an_is_below cd_is_below ct_is_below), sl_is_below⟩) (c_is_below : PySem.W.codeIn K cd_is_below "is_below" = true) (k_is_below : PySem.W.keepIn K (.ref f_is_below) = true)
    {f_is_place : Addr} {od_is_place an_is_place : Option Addr} {sl_is_place : Array (Option Value)} {oc_is_place kV_is_place dc_is_place pm_is_place cd_is_place ct_is_place : Value}
    (a_is_place : PySem.W.nsIn K mainGlobals "is_place" = some (some (.ref f_is_place))) (l_is_place : K.lookup f_is_place = some ⟨oc_is_place, od_is_place, .func (PySem.W.fnOf "is_place" "is_place" (defArgs s_is_place) (defBody s_is_place) (defScope s_is_place) .none kV_is_place dc_is_place pm_is_place an_is_place cd_is_place ct_is_place), sl_is_place⟩) (c_is_place : PySem.W.codeIn K cd_is_place "is_place" = true) (k_is_place : PySem.W.keepIn K (.ref f_is_place) = true)
    {f_look_at_links : Addr} {od_look_at_links an_look_at_links : Option Addr} {sl_look_at_links : Array (Option Value)} {oc_look_at_links kV_look_at_links dc_look_at_links pm_look_at_links cd_look_at_links ct_look_at_links : Value}
    (a_look_at_links : PySem.W.nsIn K mainGlobals "look_at_links" = some (some (.ref f_look_at_links))) (l_look_at_links : K.lookup f_look_at_links = some ⟨oc_look_at_links, od_look_at_links, .func (PySem.W.fnOf "look_at_links" "look_at_links" (defArgs s_look_at_links) (defBody s_look_at_links) (defScope s_look_at_links) .none kV_look_at_links dc_look_at_links pm_look_at_links an_look_at_links cd_look_at_links ct_look_at_links), sl_look_at_links⟩) (c_look_at_links : PySem.W.codeIn K cd_look_at_links "look_at_links" = true) (k_look_at_links : PySem.W.keepIn K (.ref f_look_at_links) = true)
    {f_is_width : Addr} {od_is_width an_is_width : Option Addr} {sl_is_width : Array (Option Value)} {oc_is_width kV_is_width dc_is_width pm_is_width cd_is_width ct_is_width : Value}
    (a_is_width : PySem.W.nsIn K mainGlobals "is_width" = some (some (.ref f_is_width))) (l_is_width : K.lookup f_is_width = some ⟨oc_is_width, od_is_width, .func (PySem.W.fnOf "is_width" "is_width" (defArgs s_is_width) (defBody s_is_width) (defScope s_is_width) .none kV_is_width dc_is_width pm_is_width an_is_width cd_is_width ct_is_width), sl_is_width⟩) (c_is_width : PySem.W.codeIn K cd_is_width "is_width" = true) (k_is_width : PySem.W.keepIn K (.ref f_is_width) = true)
    {f_is_of : Addr} {od_is_of an_is_of : Option Addr} {sl_is_of : Array (Option Value)} {oc_is_of kV_is_of dc_is_of pm_is_of cd_is_of ct_is_of : Value}
    (a_is_of : PySem.W.nsIn K mainGlobals "is_of" = some (some (.ref f_is_of))) (l_is_of : K.lookup f_is_of = some ⟨oc_is_of, od_is_of, .func (PySem.W.fnOf "is_of" "is_of" (defArgs s_is_of) (defBody s_is_of) (defScope s_is_of) .none kV_is_of dc_is_of pm_is_of an_is_of cd_is_of ct_is_of), sl_is_of⟩) (c_is_of : PySem.W.codeIn K cd_is_of "is_of" = true) (k_is_of : PySem.W.keepIn K (.ref f_is_of) = true)
    {f_is_pattern : Addr} {od_is_pattern an_is_pattern : Option Addr} {sl_is_pattern : Array (Option Value)} {oc_is_pattern kV_is_pattern dc_is_pattern pm_is_pattern cd_is_pattern ct_is_pattern : Value}
    (a_is_pattern : PySem.W.nsIn K mainGlobals "is_pattern" = some (some (.ref f_is_pattern))) (l_is_pattern : K.lookup f_is_pattern = some ⟨oc_is_pattern, od_is_pattern, .func (PySem.W.fnOf "is_pattern" "is_pattern" (defArgs s_is_pattern) (defBody s_is_pattern) (defScope s_is_pattern) .none kV_is_pattern dc_is_pattern pm_is_pattern an_is_pattern cd_is_pattern ct_is_pattern), sl_is_pattern⟩) (c_is_pattern : PySem.W.codeIn K cd_is_pattern "is_pattern" = true) (k_is_pattern : PySem.W.keepIn K (.ref f_is_pattern) = true)
    {f_is_out : Addr} {od_is_out an_is_out : Option Addr} {sl_is_out : Array (Option Value)} {oc_is_out kV_is_out dc_is_out pm_is_out cd_is_out ct_is_out : Value}
    (a_is_out : PySem.W.nsIn K mainGlobals "is_out" = some (some (.ref f_is_out))) (l_is_out : K.lookup f_is_out = some ⟨oc_is_out, od_is_out, .func (PySem.W.fnOf "is_out" "is_out" (defArgs s_is_out) (defBody s_is_out) (defScope s_is_out) .none kV_is_out dc_is_out pm_is_out an_is_out cd_is_out ct_is_out), sl_is_out⟩) (c_is_out : PySem.W.codeIn K cd_is_out "is_out" = true) (k_is_out : PySem.W.keepIn K (.ref f_is_out) = true)
    {f_is_rule : Addr} {od_is_rule an_is_rule : Option Addr} {sl_is_rule : Array (Option Value)} {oc_is_rule kV_is_rule dc_is_rule pm_is_rule cd_is_rule ct_is_rule : Value}
    (a_is_rule : PySem.W.nsIn K mainGlobals "is_rule" = some (some (.ref f_is_rule))) (l_is_rule : K.lookup f_is_rule = some ⟨oc_is_rule, od_is_rule, .func (PySem.W.fnOf "is_rule" "is_rule" (defArgs s_is_rule) (defBody s_is_rule) (defScope s_is_rule) .none kV_is_rule dc_is_rule pm_is_rule an_is_rule cd_is_rule ct_is_rule), sl_is_rule⟩) (c_is_rule : PySem.W.codeIn K cd_is_rule "is_rule" = true) (k_is_rule : PySem.W.keepIn K (.ref f_is_rule) = true)
    {f_look_at_switch : Addr} {od_look_at_switch an_look_at_switch : Option Addr} {sl_look_at_switch : Array (Option Value)} {oc_look_at_switch kV_look_at_switch dc_look_at_switch pm_look_at_switch cd_look_at_switch ct_look_at_switch : Value}
    (a_look_at_switch : PySem.W.nsIn K mainGlobals "look_at_switch" = some (some (.ref f_look_at_switch))) (l_look_at_switch : K.lookup f_look_at_switch = some ⟨oc_look_at_switch, od_look_at_switch, .func (PySem.W.fnOf "look_at_switch" "look_at_switch" (defArgs s_look_at_switch) (defBody s_look_at_switch) (defScope s_look_at_switch) .none kV_look_at_switch dc_look_at_switch pm_look_at_switch an_look_at_switch cd_look_at_switch ct_look_at_switch), sl_look_at_switch⟩) (c_look_at_switch : PySem.W.codeIn K cd_look_at_switch "look_at_switch" = true) (k_look_at_switch : PySem.W.keepIn K (.ref f_look_at_switch) = true)
    {f_look_at_net : Addr} {od_look_at_net an_look_at_net : Option Addr} {sl_look_at_net : Array (Option Value)} {oc_look_at_net kV_look_at_net dc_look_at_net pm_look_at_net cd_look_at_net ct_look_at_net : Value}
    (a_look_at_net : PySem.W.nsIn K mainGlobals "look_at_net" = some (some (.ref f_look_at_net))) (l_look_at_net : K.lookup f_look_at_net = some ⟨oc_look_at_net, od_look_at_net, .func (PySem.W.fnOf "look_at_net" "look_at_net" (defArgs s_look_at_net) (defBody s_look_at_net) (defScope s_look_at_net) .none kV_look_at_net dc_look_at_net pm_look_at_net an_look_at_net cd_look_at_net ct_look_at_net), sl_look_at_net⟩) (c_look_at_net : PySem.W.codeIn K cd_look_at_net "look_at_net" = true) (k_look_at_net : PySem.W.keepIn K (.ref f_look_at_net) = true)
    {f_Reading_net : Addr} {od_Reading_net an_Reading_net : Option Addr} {sl_Reading_net : Array (Option Value)} {oc_Reading_net kV_Reading_net dc_Reading_net pm_Reading_net cd_Reading_net ct_Reading_net : Value}
    (a_Reading_net : PySem.W.findIn K (.ref a_Reading) "net" = some (some (.ref f_Reading_net))) (i_Reading_net : PySem.W.isFn K (.ref f_Reading_net) = true) (l_Reading_net : K.lookup f_Reading_net = some ⟨oc_Reading_net, od_Reading_net, .func (PySem.W.fnOf "net" "Reading.net" (defArgs s_Reading_net) (defBody s_Reading_net) (defScope s_Reading_net) .none kV_Reading_net dc_Reading_net pm_Reading_net an_Reading_net cd_Reading_net ct_Reading_net), sl_Reading_net⟩) (c_Reading_net : PySem.W.codeIn K cd_Reading_net "Reading.net" = true) (k_Reading_net : PySem.W.keepIn K (.ref f_Reading_net) = true)
    {f_read : Addr} {od_read an_read : Option Addr} {sl_read : Array (Option Value)} {oc_read kV_read dc_read pm_read cd_read ct_read : Value}
    (a_read : PySem.W.nsIn K mainGlobals "read" = some (some (.ref f_read))) (l_read : K.lookup f_read = some ⟨oc_read, od_read, .func (PySem.W.fnOf "read" "read" (defArgs s_read) (defBody s_read) (defScope s_read) .none kV_read dc_read pm_read an_read cd_read ct_read), sl_read⟩) (c_read : PySem.W.codeIn K cd_read "read" = true) (k_read : PySem.W.keepIn K (.ref f_read) = true)
    {f_shown_outs : Addr} {od_shown_outs an_shown_outs : Option Addr} {sl_shown_outs : Array (Option Value)} {oc_shown_outs kV_shown_outs dc_shown_outs pm_shown_outs cd_shown_outs ct_shown_outs : Value}
    (a_shown_outs : PySem.W.nsIn K mainGlobals "shown_outs" = some (some (.ref f_shown_outs))) (l_shown_outs : K.lookup f_shown_outs = some ⟨oc_shown_outs, od_shown_outs, .func (PySem.W.fnOf "shown_outs" "shown_outs" (defArgs s_shown_outs) (defBody s_shown_outs) (defScope s_shown_outs) .none kV_shown_outs dc_shown_outs pm_shown_outs an_shown_outs cd_shown_outs ct_shown_outs), sl_shown_outs⟩) (c_shown_outs : PySem.W.codeIn K cd_shown_outs "shown_outs" = true) (k_shown_outs : PySem.W.keepIn K (.ref f_shown_outs) = true)
    {f_shown_rule : Addr} {od_shown_rule an_shown_rule : Option Addr} {sl_shown_rule : Array (Option Value)} {oc_shown_rule kV_shown_rule dc_shown_rule pm_shown_rule cd_shown_rule ct_shown_rule : Value}
    (a_shown_rule : PySem.W.nsIn K mainGlobals "shown_rule" = some (some (.ref f_shown_rule))) (l_shown_rule : K.lookup f_shown_rule = some ⟨oc_shown_rule, od_shown_rule, .func (PySem.W.fnOf "shown_rule" "shown_rule" (defArgs s_shown_rule) (defBody s_shown_rule) (defScope s_shown_rule) .none kV_shown_rule dc_shown_rule pm_shown_rule an_shown_rule cd_shown_rule ct_shown_rule), sl_shown_rule⟩) (c_shown_rule : PySem.W.codeIn K cd_shown_rule "shown_rule" = true) (k_shown_rule : PySem.W.keepIn K (.ref f_shown_rule) = true)
    {f_shown_place : Addr} {od_shown_place an_shown_place : Option Addr} {sl_shown_place : Array (Option Value)} {oc_shown_place kV_shown_place dc_shown_place pm_shown_place cd_shown_place ct_shown_place : Value}
    (a_shown_place : PySem.W.nsIn K mainGlobals "shown_place" = some (some (.ref f_shown_place))) (l_shown_place : K.lookup f_shown_place = some ⟨oc_shown_place, od_shown_place, .func (PySem.W.fnOf "shown_place" "shown_place" (defArgs s_shown_place) (defBody s_shown_place) (defScope s_shown_place) .none kV_shown_place dc_shown_place pm_shown_place an_shown_place cd_shown_place ct_shown_place), sl_shown_place⟩) (c_shown_place : PySem.W.codeIn K cd_shown_place "shown_place" = true) (k_shown_place : PySem.W.keepIn K (.ref f_shown_place) = true)
    {f_shown : Addr} {od_shown an_shown : Option Addr} {sl_shown : Array (Option Value)} {oc_shown kV_shown dc_shown pm_shown cd_shown ct_shown : Value}
    (a_shown : PySem.W.nsIn K mainGlobals "shown" = some (some (.ref f_shown))) (l_shown : K.lookup f_shown = some ⟨oc_shown, od_shown, .func (PySem.W.fnOf "shown" "shown" (defArgs s_shown) (defBody s_shown) (defScope s_shown) .none kV_shown dc_shown pm_shown an_shown cd_shown ct_shown), sl_shown⟩) (c_shown : PySem.W.codeIn K cd_shown "shown" = true) (k_shown : PySem.W.keepIn K (.ref f_shown) = true)
    {f_law : Addr} {od_law an_law : Option Addr} {sl_law : Array (Option Value)} {oc_law kV_law dc_law pm_law cd_law ct_law : Value}
    (a_law : PySem.W.nsIn K mainGlobals "law" = some (some (.ref f_law))) (l_law : K.lookup f_law = some ⟨oc_law, od_law, .func (PySem.W.fnOf "law" "law" (defArgs s_law) (defBody s_law) (defScope s_law) .none kV_law dc_law pm_law an_law cd_law ct_law), sl_law⟩) (c_law : PySem.W.codeIn K cd_law "law" = true) (k_law : PySem.W.keepIn K (.ref f_law) = true)
    (z_len : PySem.W.nsIn K mainGlobals "len" = some none)
    (z_range : PySem.W.nsIn K mainGlobals "range" = some none)
    (z_enumerate : PySem.W.nsIn K mainGlobals "enumerate" = some none)
    (z_min : PySem.W.nsIn K mainGlobals "min" = some none)
    (z_max : PySem.W.nsIn K mainGlobals "max" = some none)
    (z_int : PySem.W.nsIn K mainGlobals "int" = some none)
    (z_str : PySem.W.nsIn K mainGlobals "str" = some none)
    (z_all : PySem.W.nsIn K mainGlobals "all" = some none)
    (z_tuple : PySem.W.nsIn K mainGlobals "tuple" = some none)
    (z_isinstance : PySem.W.nsIn K mainGlobals "isinstance" = some none)
    (z_bool : PySem.W.nsIn K mainGlobals "bool" = some none)
    (z_list : PySem.W.nsIn K mainGlobals "list" = some none)
    (z_repr : PySem.W.nsIn K mainGlobals "repr" = some none)
    (na_Reading_own_links : PySem.W.findIn K (.ref a_Reading) "own_links" = some none)
    (na_Reading_own_switches : PySem.W.findIn K (.ref a_Reading) "own_switches" = some none)
    (na_Reading_own_width : PySem.W.findIn K (.ref a_Reading) "own_width" = some none)
    {t_MOST_WIDTH : Tok} (v_MOST_WIDTH : PySem.W.nsIn K mainGlobals "MOST_WIDTH" = some (some (.int 16 t_MOST_WIDTH)))
    {t_MOST_SWITCHES : Tok} (v_MOST_SWITCHES : PySem.W.nsIn K mainGlobals "MOST_SWITCHES" = some (some (.int 8 t_MOST_SWITCHES)))
    {t_MOST_DOORS : Tok} (v_MOST_DOORS : PySem.W.nsIn K mainGlobals "MOST_DOORS" = some (some (.int 6 t_MOST_DOORS)))
    {t_MOST_RULES : Tok} (v_MOST_RULES : PySem.W.nsIn K mainGlobals "MOST_RULES" = some (some (.int 20 t_MOST_RULES)))
    {t_MOST_OUTS : Tok} (v_MOST_OUTS : PySem.W.nsIn K mainGlobals "MOST_OUTS" = some (some (.int 3 t_MOST_OUTS)))
    {t_MOST_LINKS : Tok} (v_MOST_LINKS : PySem.W.nsIn K mainGlobals "MOST_LINKS" = some (some (.int 24 t_MOST_LINKS)))
    {t_FIGURES : Tok} (v_FIGURES : PySem.W.nsIn K mainGlobals "FIGURES" = some (some (.str ⟨[48, 49, 50, 51, 52, 53, 54, 55, 56, 57].toArray⟩ t_FIGURES)))
    {t_SIGNS : Tok} (v_SIGNS : PySem.W.nsIn K mainGlobals "SIGNS" = some (some (.str ⟨[48, 49, 42].toArray⟩ t_SIGNS)))
    {t_MOST_FIGURES : Tok} (v_MOST_FIGURES : PySem.W.nsIn K mainGlobals "MOST_FIGURES" = some (some (.int 9 t_MOST_FIGURES)))
    : ∃ fd : FuncData, (∀ (s : Shared) (v : Value), BindsTo s fd ⟨[v], []⟩ [("_law_script", v)]) ∧ ∀ base : Heap, K.In base → base.Ns mainGlobals mg → FnG l.prog w K mg base 13 fa fd ["_law_script"] (spLaw K) := by
  have e := hfa.symm.trans (PySem.W.mg_of X G a_law)
  cases e
  have T : Txt w K mg ⟨K, clT [("Reading", a_Reading)], okT ["Reading"]⟩ := ⟨rfl, (okT_cons (ob_mk ⟨oc1_Reading, oc2_Reading, oc3_Reading, oc4_Reading⟩ oh1_Reading oh2_Reading oh3_Reading oh5_Reading ot_int_Reading ot_bool_Reading ot_str_Reading ot_list_Reading ot_tuple_Reading ot_dict_Reading) okT_nil), PySem.W.mg_none_of X G z_len, PySem.W.mg_none_of X G z_range, PySem.W.mg_none_of X G z_enumerate, PySem.W.mg_none_of X G z_min, PySem.W.mg_none_of X G z_max, PySem.W.mg_none_of X G z_int, PySem.W.mg_none_of X G z_str, PySem.W.mg_none_of X G z_all, PySem.W.mg_none_of X G z_tuple, PySem.W.mg_none_of X G z_isinstance, PySem.W.mg_none_of X G z_bool, PySem.W.mg_none_of X G z_list, PySem.W.mg_none_of X G z_repr, na_Reading_own_links, na_Reading_own_switches, na_Reading_own_width, okT_mem rfl, ⟨_, PySem.W.mg_of X G v_MOST_WIDTH⟩, ⟨_, PySem.W.mg_of X G v_MOST_SWITCHES⟩, ⟨_, PySem.W.mg_of X G v_MOST_DOORS⟩, ⟨_, PySem.W.mg_of X G v_MOST_RULES⟩, ⟨_, PySem.W.mg_of X G v_MOST_OUTS⟩, ⟨_, PySem.W.mg_of X G v_MOST_LINKS⟩, ⟨_, PySem.W.mg_of X G v_FIGURES⟩, ⟨_, PySem.W.mg_of X G v_SIGNS⟩, ⟨_, PySem.W.mg_of X G v_MOST_FIGURES⟩⟩
  have F__law_cell_at := fun_mk (st := s__law_cell_at) l__law_cell_at c__law_cell_at k__law_cell_at
  have b__law_cell_at := F__law_cell_at.binds (ps := ["_law_script", "_law_k"]) fun _ _ _ _ _ _ us hl => match us, hl with | [_, _], _ => rfl
  have F__law_pool := fun_mk (st := s__law_pool) l__law_pool c__law_pool k__law_pool
  have b__law_pool := F__law_pool.binds (ps := ["_law_script", "_law_k"]) fun _ _ _ _ _ _ us hl => match us, hl with | [_, _], _ => rfl
  have F__law_take := fun_mk (st := s__law_take) l__law_take c__law_take k__law_take
  have b__law_take := F__law_take.binds (ps := ["_law_pool_here", "_law_many"]) fun _ _ _ _ _ _ us hl => match us, hl with | [_, _], _ => rfl
  have F__law_text := fun_mk (st := s__law_text) l__law_text c__law_text k__law_text
  have b__law_text := F__law_text.binds (ps := ["_law_pool_here", "_law_width", "_law_signs"]) fun _ _ _ _ _ _ us hl => match us, hl with | [_, _, _], _ => rfl
  have F__law_pattern := fun_mk (st := s__law_pattern) l__law_pattern c__law_pattern k__law_pattern
  have b__law_pattern := F__law_pattern.binds (ps := ["_law_pool_here", "_law_width"]) fun _ _ _ _ _ _ us hl => match us, hl with | [_, _], _ => rfl
  have F__law_rule := fun_mk (st := s__law_rule) l__law_rule c__law_rule k__law_rule
  have b__law_rule := F__law_rule.binds (ps := ["_law_pool_here", "_law_width", "_law_doors"]) fun _ _ _ _ _ _ us hl => match us, hl with | [_, _, _], _ => rfl
  have F__law_net := fun_mk (st := s__law_net) l__law_net c__law_net k__law_net
  have b__law_net := F__law_net.binds (ps := ["_law_pool_here", "_law_width", "_law_many"]) fun _ _ _ _ _ _ us hl => match us, hl with | [_, _, _], _ => rfl
  have F__law_rule_row := fun_mk (st := s__law_rule_row) l__law_rule_row c__law_rule_row k__law_rule_row
  have b__law_rule_row := F__law_rule_row.binds (ps := ["_law_rule_here"]) fun _ _ _ _ _ _ us hl => match us, hl with | [_], _ => rfl
  have F__law_spot := fun_mk (st := s__law_spot) l__law_spot c__law_spot k__law_spot
  have b__law_spot := F__law_spot.binds (ps := ["_law_place"]) fun _ _ _ _ _ _ us hl => match us, hl with | [_], _ => rfl
  have F__law_written := fun_mk (st := s__law_written) l__law_written c__law_written k__law_written
  have b__law_written := F__law_written.binds (ps := ["_law_net_here"]) fun _ _ _ _ _ _ us hl => match us, hl with | [_], _ => rfl
  have F_Reading___init__ := fun_mk (st := s_Reading___init__) l_Reading___init__ c_Reading___init__ k_Reading___init__
  have b_Reading___init__ := F_Reading___init__.binds (ps := ["self"]) fun _ _ _ _ _ _ us hl => match us, hl with | [_], _ => rfl
  have F_Reading_netM := fun_mk (st := s_Reading_netM) l_Reading_netM c_Reading_netM k_Reading_netM
  have b_Reading_netM := F_Reading_netM.binds (ps := ["self"]) fun _ _ _ _ _ _ us hl => match us, hl with | [_], _ => rfl
  have F_number_of := fun_mk (st := s_number_of) l_number_of c_number_of k_number_of
  have b_number_of := F_number_of.binds (ps := ["word"]) fun _ _ _ _ _ _ us hl => match us, hl with | [_], _ => rfl
  have F_Reading_take_width := fun_mk (st := s_Reading_take_width) l_Reading_take_width c_Reading_take_width k_Reading_take_width
  have b_Reading_take_width := F_Reading_take_width.binds (ps := ["self", "words"]) fun _ _ _ _ _ _ us hl => match us, hl with | [_, _], _ => rfl
  have F_Reading_take_switch := fun_mk (st := s_Reading_take_switch) l_Reading_take_switch c_Reading_take_switch k_Reading_take_switch
  have b_Reading_take_switch := F_Reading_take_switch.binds (ps := ["self", "words"]) fun _ _ _ _ _ _ us hl => match us, hl with | [_, _], _ => rfl
  have F_place_of := fun_mk (st := s_place_of) l_place_of c_place_of k_place_of
  have b_place_of := F_place_of.binds (ps := ["word"]) fun _ _ _ _ _ _ us hl => match us, hl with | [_], _ => rfl
  have F_Reading_take_link := fun_mk (st := s_Reading_take_link) l_Reading_take_link c_Reading_take_link k_Reading_take_link
  have b_Reading_take_link := F_Reading_take_link.binds (ps := ["self", "words"]) fun _ _ _ _ _ _ us hl => match us, hl with | [_, _], _ => rfl
  have F_is_signs := fun_mk (st := s_is_signs) l_is_signs c_is_signs k_is_signs
  have b_is_signs := F_is_signs.binds (ps := ["word"]) fun _ _ _ _ _ _ us hl => match us, hl with | [_], _ => rfl
  have F_out_of := fun_mk (st := s_out_of) l_out_of c_out_of k_out_of
  have b_out_of := F_out_of.binds (ps := ["word"]) fun _ _ _ _ _ _ us hl => match us, hl with | [_], _ => rfl
  have F_rule_of := fun_mk (st := s_rule_of) l_rule_of c_rule_of k_rule_of
  have b_rule_of := F_rule_of.binds (ps := ["words"]) fun _ _ _ _ _ _ us hl => match us, hl with | [_], _ => rfl
  have F_Reading_take_rule := fun_mk (st := s_Reading_take_rule) l_Reading_take_rule c_Reading_take_rule k_Reading_take_rule
  have b_Reading_take_rule := F_Reading_take_rule.binds (ps := ["self", "words"]) fun _ _ _ _ _ _ us hl => match us, hl with | [_, _], _ => rfl
  have F_Reading_take := fun_mk (st := s_Reading_take) l_Reading_take c_Reading_take k_Reading_take
  have b_Reading_take := F_Reading_take.binds (ps := ["self", "row"]) fun _ _ _ _ _ _ us hl => match us, hl with | [_, _], _ => rfl
  have F_is_whole := fun_mk (st := s_is_whole) l_is_whole c_is_whole k_is_whole
  have b_is_whole := F_is_whole.binds (ps := ["thing"]) fun _ _ _ _ _ _ us hl => match us, hl with | [_], _ => rfl
  have F_is_below := fun_mk (st := s_is_below) l_is_below c_is_below k_is_below
  have b_is_below := F_is_below.binds (ps := ["thing", "many"]) fun _ _ _ _ _ _ us hl => match us, hl with | [_, _], _ => rfl
  have F_is_place := fun_mk (st := s_is_place) l_is_place c_is_place k_is_place
  have b_is_place := F_is_place.binds (ps := ["switches", "thing"]) fun _ _ _ _ _ _ us hl => match us, hl with | [_, _], _ => rfl
  have F_look_at_links := fun_mk (st := s_look_at_links) l_look_at_links c_look_at_links k_look_at_links
  have b_look_at_links := F_look_at_links.binds (ps := ["switches", "links"]) fun _ _ _ _ _ _ us hl => match us, hl with | [_, _], _ => rfl
  have F_is_width := fun_mk (st := s_is_width) l_is_width c_is_width k_is_width
  have b_is_width := F_is_width.binds (ps := ["thing"]) fun _ _ _ _ _ _ us hl => match us, hl with | [_], _ => rfl
  have F_is_of := fun_mk (st := s_is_of) l_is_of c_is_of k_is_of
  have b_is_of := F_is_of.binds (ps := ["thing", "width", "signs"]) fun _ _ _ _ _ _ us hl => match us, hl with | [_, _, _], _ => rfl
  have F_is_pattern := fun_mk (st := s_is_pattern) l_is_pattern c_is_pattern k_is_pattern
  have b_is_pattern := F_is_pattern.binds (ps := ["thing", "width"]) fun _ _ _ _ _ _ us hl => match us, hl with | [_, _], _ => rfl
  have F_is_out := fun_mk (st := s_is_out) l_is_out c_is_out k_is_out
  have b_is_out := F_is_out.binds (ps := ["width", "doors", "thing"]) fun _ _ _ _ _ _ us hl => match us, hl with | [_, _, _], _ => rfl
  have F_is_rule := fun_mk (st := s_is_rule) l_is_rule c_is_rule k_is_rule
  have b_is_rule := F_is_rule.binds (ps := ["width", "doors", "thing"]) fun _ _ _ _ _ _ us hl => match us, hl with | [_, _, _], _ => rfl
  have F_look_at_switch := fun_mk (st := s_look_at_switch) l_look_at_switch c_look_at_switch k_look_at_switch
  have b_look_at_switch := F_look_at_switch.binds (ps := ["width", "number", "thing"]) fun _ _ _ _ _ _ us hl => match us, hl with | [_, _, _], _ => rfl
  have F_look_at_net := fun_mk (st := s_look_at_net) l_look_at_net c_look_at_net k_look_at_net
  have b_look_at_net := F_look_at_net.binds (ps := ["thing"]) fun _ _ _ _ _ _ us hl => match us, hl with | [_], _ => rfl
  have F_Reading_net := fun_mk (st := s_Reading_net) l_Reading_net c_Reading_net k_Reading_net
  have b_Reading_net := F_Reading_net.binds (ps := ["self"]) fun _ _ _ _ _ _ us hl => match us, hl with | [_], _ => rfl
  have F_read := fun_mk (st := s_read) l_read c_read k_read
  have b_read := F_read.binds (ps := ["text"]) fun _ _ _ _ _ _ us hl => match us, hl with | [_], _ => rfl
  have F_shown_outs := fun_mk (st := s_shown_outs) l_shown_outs c_shown_outs k_shown_outs
  have b_shown_outs := F_shown_outs.binds (ps := ["outs"]) fun _ _ _ _ _ _ us hl => match us, hl with | [_], _ => rfl
  have F_shown_rule := fun_mk (st := s_shown_rule) l_shown_rule c_shown_rule k_shown_rule
  have b_shown_rule := F_shown_rule.binds (ps := ["rule"]) fun _ _ _ _ _ _ us hl => match us, hl with | [_], _ => rfl
  have F_shown_place := fun_mk (st := s_shown_place) l_shown_place c_shown_place k_shown_place
  have b_shown_place := F_shown_place.binds (ps := ["place"]) fun _ _ _ _ _ _ us hl => match us, hl with | [_], _ => rfl
  have F_shown := fun_mk (st := s_shown) l_shown c_shown k_shown
  have b_shown := F_shown.binds (ps := ["net"]) fun _ _ _ _ _ _ us hl => match us, hl with | [_], _ => rfl
  have F_law := fun_mk (st := s_law) l_law c_law k_law
  refine ⟨PySem.W.fnOf "law" "law" (defArgs s_law) (defBody s_law) (defScope s_law) .none kV_law dc_law pm_law an_law cd_law ct_law, fun s v => .of_eq rfl, fun base _ _ => ?_⟩
  have C__law_cell_at := ok__law_cell_at (P := l.prog) (w := w) (base := base) T  F__law_cell_at (PySem.W.mg_of X G a__law_cell_at) b__law_cell_at
  have C__law_pool := ok__law_pool (P := l.prog) (w := w) (base := base) T C__law_cell_at F__law_pool (PySem.W.mg_of X G a__law_pool) b__law_pool
  have C__law_take := ok__law_take (P := l.prog) (w := w) (base := base) T  F__law_take (PySem.W.mg_of X G a__law_take) b__law_take
  have C__law_text := ok__law_text (P := l.prog) (w := w) (base := base) T C__law_take F__law_text (PySem.W.mg_of X G a__law_text) b__law_text
  have C__law_pattern := ok__law_pattern (P := l.prog) (w := w) (base := base) T C__law_text C__law_take F__law_pattern (PySem.W.mg_of X G a__law_pattern) b__law_pattern
  have C__law_rule := ok__law_rule (P := l.prog) (w := w) (base := base) T C__law_take C__law_pattern C__law_text F__law_rule (PySem.W.mg_of X G a__law_rule) b__law_rule
  have C__law_net := ok__law_net (P := l.prog) (w := w) (base := base) T C__law_take C__law_rule F__law_net (PySem.W.mg_of X G a__law_net) b__law_net
  have C__law_rule_row := ok__law_rule_row (P := l.prog) (w := w) (base := base) T  F__law_rule_row (PySem.W.mg_of X G a__law_rule_row) b__law_rule_row
  have C__law_spot := ok__law_spot (P := l.prog) (w := w) (base := base) T  F__law_spot (PySem.W.mg_of X G a__law_spot) b__law_spot
  have C__law_written := ok__law_written (P := l.prog) (w := w) (base := base) T C__law_rule_row C__law_spot F__law_written (PySem.W.mg_of X G a__law_written) b__law_written
  have G_Reading___init__ := fn_Reading___init__ (P := l.prog) (w := w) (base := base) T  (toE F_Reading___init__)
  have C_Reading___init__ := mk_make (cm := ⟨K, clT [("Reading", a_Reading)], okT ["Reading"]⟩) (c := "Reading") G_Reading___init__ ⟨mk_Reading, a_Reading___init__, i_Reading___init__, kc_Reading⟩ (PySem.W.mg_of X G ag_Reading) b_Reading___init__
  have G_Reading_netM := fn_Reading_netM (P := l.prog) (w := w) (base := base) T  (toE F_Reading_netM)
  have C_Reading_netM := mk_meth (cm := ⟨K, clT [("Reading", a_Reading)], okT ["Reading"]⟩) (c := "Reading") (m := "net") G_Reading_netM ⟨a_Reading_netM, i_Reading_netM, k_Reading_netM⟩ b_Reading_netM
  have C_number_of := ok_number_of (P := l.prog) (w := w) (base := base) T  F_number_of (PySem.W.mg_of X G a_number_of) b_number_of
  have G_Reading_take_width := fn_Reading_take_width (P := l.prog) (w := w) (base := base) T C_number_of (toE F_Reading_take_width)
  have C_Reading_take_width := mk_meth (cm := ⟨K, clT [("Reading", a_Reading)], okT ["Reading"]⟩) (c := "Reading") (m := "take_width") G_Reading_take_width ⟨a_Reading_take_width, i_Reading_take_width, k_Reading_take_width⟩ b_Reading_take_width
  have G_Reading_take_switch := fn_Reading_take_switch (P := l.prog) (w := w) (base := base) T C_number_of (toE F_Reading_take_switch)
  have C_Reading_take_switch := mk_meth (cm := ⟨K, clT [("Reading", a_Reading)], okT ["Reading"]⟩) (c := "Reading") (m := "take_switch") G_Reading_take_switch ⟨a_Reading_take_switch, i_Reading_take_switch, k_Reading_take_switch⟩ b_Reading_take_switch
  have C_place_of := ok_place_of (P := l.prog) (w := w) (base := base) T C_number_of F_place_of (PySem.W.mg_of X G a_place_of) b_place_of
  have G_Reading_take_link := fn_Reading_take_link (P := l.prog) (w := w) (base := base) T C_place_of (toE F_Reading_take_link)
  have C_Reading_take_link := mk_meth (cm := ⟨K, clT [("Reading", a_Reading)], okT ["Reading"]⟩) (c := "Reading") (m := "take_link") G_Reading_take_link ⟨a_Reading_take_link, i_Reading_take_link, k_Reading_take_link⟩ b_Reading_take_link
  have C_is_signs := ok_is_signs (P := l.prog) (w := w) (base := base) T  F_is_signs (PySem.W.mg_of X G a_is_signs) b_is_signs
  have C_out_of := ok_out_of (P := l.prog) (w := w) (base := base) T C_number_of C_is_signs F_out_of (PySem.W.mg_of X G a_out_of) b_out_of
  have C_rule_of := ok_rule_of (P := l.prog) (w := w) (base := base) T C_is_signs C_out_of C_number_of F_rule_of (PySem.W.mg_of X G a_rule_of) b_rule_of
  have G_Reading_take_rule := fn_Reading_take_rule (P := l.prog) (w := w) (base := base) T C_rule_of (toE F_Reading_take_rule)
  have C_Reading_take_rule := mk_meth (cm := ⟨K, clT [("Reading", a_Reading)], okT ["Reading"]⟩) (c := "Reading") (m := "take_rule") G_Reading_take_rule ⟨a_Reading_take_rule, i_Reading_take_rule, k_Reading_take_rule⟩ b_Reading_take_rule
  have G_Reading_take := fn_Reading_take (P := l.prog) (w := w) (base := base) T C_Reading_take_width C_Reading_take_switch C_Reading_take_link C_Reading_take_rule (toE F_Reading_take)
  have C_Reading_take := mk_meth (cm := ⟨K, clT [("Reading", a_Reading)], okT ["Reading"]⟩) (c := "Reading") (m := "take") G_Reading_take ⟨a_Reading_take, i_Reading_take, k_Reading_take⟩ b_Reading_take
  have C_is_whole := ok_is_whole (P := l.prog) (w := w) (base := base) T  F_is_whole (PySem.W.mg_of X G a_is_whole) b_is_whole
  have C_is_below := ok_is_below (P := l.prog) (w := w) (base := base) T C_is_whole F_is_below (PySem.W.mg_of X G a_is_below) b_is_below
  have C_is_place := ok_is_place (P := l.prog) (w := w) (base := base) T C_is_below F_is_place (PySem.W.mg_of X G a_is_place) b_is_place
  have C_look_at_links := ok_look_at_links (P := l.prog) (w := w) (base := base) T C_is_place F_look_at_links (PySem.W.mg_of X G a_look_at_links) b_look_at_links
  have C_is_width := ok_is_width (P := l.prog) (w := w) (base := base) T C_is_whole F_is_width (PySem.W.mg_of X G a_is_width) b_is_width
  have C_is_of := ok_is_of (P := l.prog) (w := w) (base := base) T  F_is_of (PySem.W.mg_of X G a_is_of) b_is_of
  have C_is_pattern := ok_is_pattern (P := l.prog) (w := w) (base := base) T C_is_of F_is_pattern (PySem.W.mg_of X G a_is_pattern) b_is_pattern
  have C_is_out := ok_is_out (P := l.prog) (w := w) (base := base) T C_is_below C_is_pattern F_is_out (PySem.W.mg_of X G a_is_out) b_is_out
  have C_is_rule := ok_is_rule (P := l.prog) (w := w) (base := base) T C_is_pattern C_is_out C_is_below F_is_rule (PySem.W.mg_of X G a_is_rule) b_is_rule
  have C_look_at_switch := ok_look_at_switch (P := l.prog) (w := w) (base := base) T C_is_below C_is_rule F_look_at_switch (PySem.W.mg_of X G a_look_at_switch) b_look_at_switch
  have C_look_at_net := ok_look_at_net (P := l.prog) (w := w) (base := base) T C_look_at_links C_is_width C_look_at_switch F_look_at_net (PySem.W.mg_of X G a_look_at_net) b_look_at_net
  have G_Reading_net := fn_Reading_net (P := l.prog) (w := w) (base := base) T  (toE F_Reading_net)
  have C_Reading_net := mk_meth (cm := ⟨K, clT [("Reading", a_Reading)], okT ["Reading"]⟩) (c := "Reading") (m := "net") G_Reading_net ⟨a_Reading_net, i_Reading_net, k_Reading_net⟩ b_Reading_net
  have C_read := ok_read (P := l.prog) (w := w) (base := base) T C_Reading___init__ C_Reading_netM C_Reading_take C_look_at_net C_Reading_net F_read (PySem.W.mg_of X G a_read) b_read
  have C_shown_outs := ok_shown_outs (P := l.prog) (w := w) (base := base) T  F_shown_outs (PySem.W.mg_of X G a_shown_outs) b_shown_outs
  have C_shown_rule := ok_shown_rule (P := l.prog) (w := w) (base := base) T C_shown_outs F_shown_rule (PySem.W.mg_of X G a_shown_rule) b_shown_rule
  have C_shown_place := ok_shown_place (P := l.prog) (w := w) (base := base) T  F_shown_place (PySem.W.mg_of X G a_shown_place) b_shown_place
  have C_shown := ok_shown (P := l.prog) (w := w) (base := base) T C_shown_rule C_shown_place F_shown (PySem.W.mg_of X G a_shown) b_shown
  exact (fn_law T C__law_pool C__law_net C__law_written C_read C__law_take C_shown F_law).imp (sp_law (cm := ⟨K, clT [("Reading", a_Reading)], okT ["Reading"]⟩) hlaw)
end My
namespace MyH
open PySem PySem.Calls PyProof.Rows L2 DL
set_option maxHeartbeats 4000000 in
theorem facts {w : World} {K : PySem.W.Frag} {h : Heap} {mg : Str → Option Value} {fa : Addr} (X : K.In h) (G : h.Ns mainGlobals mg) (hfa : mg "law" = some (.ref fa)) (c : He.SaysX [] fn ts [] ex w h K) :
    ∃ fd : FuncData, (∀ (s : Shared) (v : Value), BindsTo s fd ⟨[v], []⟩ [("_law_script", v)]) ∧ ∀ base : Heap, K.In base → base.Ns mainGlobals mg → FnG (PySem.Challenge.rw_everyhead_k70_nets_written_and_read).prog w K mg base 13 fa fd ["_law_script"] (spLaw K) := by
  have hx := c.more
  obtain ⟨hx0, hx⟩ := all_b hx
  obtain ⟨hx1, hx⟩ := all_b hx
  obtain ⟨hx2, hx⟩ := all_b hx
  have ag_Reading : PySem.W.nsIn K mainGlobals "Reading" = some (some (.ref (He.ga K "Reading"))) := of_decide_eq_true (all_at hx0 0 (decide (PySem.W.nsIn K mainGlobals "Reading" = some (some (.ref (He.ga K "Reading"))))) rfl)
  have oc1_Reading : PySem.W.plainGet K (He.ga K "Reading") Str.empty = true := all_at hx0 1 (PySem.W.plainGet K (He.ga K "Reading") Str.empty) rfl
  have oc2_Reading : PySem.W.hasDictIn K (He.ga K "Reading") = true := all_at hx0 2 (PySem.W.hasDictIn K (He.ga K "Reading")) rfl
  have oc3_Reading : PySem.W.plainOver K (He.ga K "Reading") = true := all_at hx0 3 (PySem.W.plainOver K (He.ga K "Reading")) rfl
  have oc4_Reading : PySem.W.findIn K (.ref (He.ga K "Reading")) "__setattr__" = some (some (.builtin "object.__setattr__")) := of_decide_eq_true (all_at hx0 4 (decide (PySem.W.findIn K (.ref (He.ga K "Reading")) "__setattr__" = some (some (.builtin "object.__setattr__")))) rfl)
  have oh1_Reading : PySem.W.findIn K (.ref (He.ga K "Reading")) "__class__" = some (some (.builtin "object.__class__")) := of_decide_eq_true (all_at hx0 5 (decide (PySem.W.findIn K (.ref (He.ga K "Reading")) "__class__" = some (some (.builtin "object.__class__")))) rfl)
  have oh2_Reading : PySem.W.specialIn K (.builtin "object.__class__") "__get__" = some (some (.builtin "getset_descriptor.__get__")) := of_decide_eq_true (all_at hx0 6 (decide (PySem.W.specialIn K (.builtin "object.__class__") "__get__" = some (some (.builtin "getset_descriptor.__get__")))) rfl)
  have oh3_Reading : PySem.W.takesIn K (.builtin "object.__class__") = some true := of_decide_eq_true (all_at hx0 7 (decide (PySem.W.takesIn K (.builtin "object.__class__") = some true)) rfl)
  have oh5_Reading : PySem.W.mroIn K (He.ga K "Reading") (.type "object") = some true := of_decide_eq_true (all_at hx0 8 (decide (PySem.W.mroIn K (He.ga K "Reading") (.type "object") = some true)) rfl)
  have ot_int_Reading : PySem.W.kitOne K (.ref (He.ga K "Reading")) (.type "int") = some false := of_decide_eq_true (all_at hx0 9 (decide (PySem.W.kitOne K (.ref (He.ga K "Reading")) (.type "int") = some false)) rfl)
  have ot_bool_Reading : PySem.W.kitOne K (.ref (He.ga K "Reading")) (.type "bool") = some false := of_decide_eq_true (all_at hx0 10 (decide (PySem.W.kitOne K (.ref (He.ga K "Reading")) (.type "bool") = some false)) rfl)
  have ot_str_Reading : PySem.W.kitOne K (.ref (He.ga K "Reading")) (.type "str") = some false := of_decide_eq_true (all_at hx0 11 (decide (PySem.W.kitOne K (.ref (He.ga K "Reading")) (.type "str") = some false)) rfl)
  have ot_list_Reading : PySem.W.kitOne K (.ref (He.ga K "Reading")) (.type "list") = some false := of_decide_eq_true (all_at hx0 12 (decide (PySem.W.kitOne K (.ref (He.ga K "Reading")) (.type "list") = some false)) rfl)
  have ot_tuple_Reading : PySem.W.kitOne K (.ref (He.ga K "Reading")) (.type "tuple") = some false := of_decide_eq_true (all_at hx0 13 (decide (PySem.W.kitOne K (.ref (He.ga K "Reading")) (.type "tuple") = some false)) rfl)
  have ot_dict_Reading : PySem.W.kitOne K (.ref (He.ga K "Reading")) (.type "dict") = some false := of_decide_eq_true (all_at hx0 14 (decide (PySem.W.kitOne K (.ref (He.ga K "Reading")) (.type "dict") = some false)) rfl)
  have mk_Reading : PySem.W.makesIn K (He.ga K "Reading") = true := all_at hx0 15 (PySem.W.makesIn K (He.ga K "Reading")) rfl
  have kc_Reading : PySem.W.keepIn K (.ref (He.ga K "Reading")) = true := all_at hx0 16 (PySem.W.keepIn K (.ref (He.ga K "Reading"))) rfl
  have a__law_cell_at : PySem.W.nsIn K mainGlobals "_law_cell_at" = some (some (.ref (He.fAd K ("_law_cell_at", none)))) := of_decide_eq_true (all_at hx0 17 (decide (PySem.W.nsIn K mainGlobals "_law_cell_at" = some (some (.ref (He.fAd K ("_law_cell_at", none)))))) rfl)
  have a__law_pool : PySem.W.nsIn K mainGlobals "_law_pool" = some (some (.ref (He.fAd K ("_law_pool", none)))) := of_decide_eq_true (all_at hx0 18 (decide (PySem.W.nsIn K mainGlobals "_law_pool" = some (some (.ref (He.fAd K ("_law_pool", none)))))) rfl)
  have a__law_take : PySem.W.nsIn K mainGlobals "_law_take" = some (some (.ref (He.fAd K ("_law_take", none)))) := of_decide_eq_true (all_at hx0 19 (decide (PySem.W.nsIn K mainGlobals "_law_take" = some (some (.ref (He.fAd K ("_law_take", none)))))) rfl)
  have a__law_text : PySem.W.nsIn K mainGlobals "_law_text" = some (some (.ref (He.fAd K ("_law_text", none)))) := of_decide_eq_true (all_at hx0 20 (decide (PySem.W.nsIn K mainGlobals "_law_text" = some (some (.ref (He.fAd K ("_law_text", none)))))) rfl)
  have a__law_pattern : PySem.W.nsIn K mainGlobals "_law_pattern" = some (some (.ref (He.fAd K ("_law_pattern", none)))) := of_decide_eq_true (all_at hx0 21 (decide (PySem.W.nsIn K mainGlobals "_law_pattern" = some (some (.ref (He.fAd K ("_law_pattern", none)))))) rfl)
  have a__law_rule : PySem.W.nsIn K mainGlobals "_law_rule" = some (some (.ref (He.fAd K ("_law_rule", none)))) := of_decide_eq_true (all_at hx0 22 (decide (PySem.W.nsIn K mainGlobals "_law_rule" = some (some (.ref (He.fAd K ("_law_rule", none)))))) rfl)
  have a__law_net : PySem.W.nsIn K mainGlobals "_law_net" = some (some (.ref (He.fAd K ("_law_net", none)))) := of_decide_eq_true (all_at hx0 23 (decide (PySem.W.nsIn K mainGlobals "_law_net" = some (some (.ref (He.fAd K ("_law_net", none)))))) rfl)
  have a__law_rule_row : PySem.W.nsIn K mainGlobals "_law_rule_row" = some (some (.ref (He.fAd K ("_law_rule_row", none)))) := of_decide_eq_true (all_at hx0 24 (decide (PySem.W.nsIn K mainGlobals "_law_rule_row" = some (some (.ref (He.fAd K ("_law_rule_row", none)))))) rfl)
  have a__law_spot : PySem.W.nsIn K mainGlobals "_law_spot" = some (some (.ref (He.fAd K ("_law_spot", none)))) := of_decide_eq_true (all_at hx0 25 (decide (PySem.W.nsIn K mainGlobals "_law_spot" = some (some (.ref (He.fAd K ("_law_spot", none)))))) rfl)
  have a__law_written : PySem.W.nsIn K mainGlobals "_law_written" = some (some (.ref (He.fAd K ("_law_written", none)))) := of_decide_eq_true (all_at hx0 26 (decide (PySem.W.nsIn K mainGlobals "_law_written" = some (some (.ref (He.fAd K ("_law_written", none)))))) rfl)
  have a_Reading___init__ : PySem.W.findIn K (.ref (He.ga K "Reading")) "__init__" = some (some (.ref (He.fAd K ("Reading", some "__init__")))) := of_decide_eq_true (all_at hx0 27 (decide (PySem.W.findIn K (.ref (He.ga K "Reading")) "__init__" = some (some (.ref (He.fAd K ("Reading", some "__init__")))))) rfl)
  have i_Reading___init__ : PySem.W.isFn K (.ref (He.fAd K ("Reading", some "__init__"))) = true := all_at hx0 28 (PySem.W.isFn K (.ref (He.fAd K ("Reading", some "__init__")))) rfl
  have a_Reading_netM : PySem.W.findIn K (.ref (He.ga K "Reading")) "net" = some (some (.ref (He.fAd K ("Reading", some "net")))) := of_decide_eq_true (all_at hx0 29 (decide (PySem.W.findIn K (.ref (He.ga K "Reading")) "net" = some (some (.ref (He.fAd K ("Reading", some "net")))))) rfl)
  have i_Reading_netM : PySem.W.isFn K (.ref (He.fAd K ("Reading", some "net"))) = true := all_at hx0 30 (PySem.W.isFn K (.ref (He.fAd K ("Reading", some "net")))) rfl
  have a_number_of : PySem.W.nsIn K mainGlobals "number_of" = some (some (.ref (He.fAd K ("number_of", none)))) := of_decide_eq_true (all_at hx0 31 (decide (PySem.W.nsIn K mainGlobals "number_of" = some (some (.ref (He.fAd K ("number_of", none)))))) rfl)
  have a_Reading_take_width : PySem.W.findIn K (.ref (He.ga K "Reading")) "take_width" = some (some (.ref (He.fAd K ("Reading", some "take_width")))) := of_decide_eq_true (all_at hx0 32 (decide (PySem.W.findIn K (.ref (He.ga K "Reading")) "take_width" = some (some (.ref (He.fAd K ("Reading", some "take_width")))))) rfl)
  have i_Reading_take_width : PySem.W.isFn K (.ref (He.fAd K ("Reading", some "take_width"))) = true := all_at hx0 33 (PySem.W.isFn K (.ref (He.fAd K ("Reading", some "take_width")))) rfl
  have a_Reading_take_switch : PySem.W.findIn K (.ref (He.ga K "Reading")) "take_switch" = some (some (.ref (He.fAd K ("Reading", some "take_switch")))) := of_decide_eq_true (all_at hx0 34 (decide (PySem.W.findIn K (.ref (He.ga K "Reading")) "take_switch" = some (some (.ref (He.fAd K ("Reading", some "take_switch")))))) rfl)
  have i_Reading_take_switch : PySem.W.isFn K (.ref (He.fAd K ("Reading", some "take_switch"))) = true := all_at hx0 35 (PySem.W.isFn K (.ref (He.fAd K ("Reading", some "take_switch")))) rfl
  have a_place_of : PySem.W.nsIn K mainGlobals "place_of" = some (some (.ref (He.fAd K ("place_of", none)))) := of_decide_eq_true (all_at hx0 36 (decide (PySem.W.nsIn K mainGlobals "place_of" = some (some (.ref (He.fAd K ("place_of", none)))))) rfl)
  have a_Reading_take_link : PySem.W.findIn K (.ref (He.ga K "Reading")) "take_link" = some (some (.ref (He.fAd K ("Reading", some "take_link")))) := of_decide_eq_true (all_at hx0 37 (decide (PySem.W.findIn K (.ref (He.ga K "Reading")) "take_link" = some (some (.ref (He.fAd K ("Reading", some "take_link")))))) rfl)
  have i_Reading_take_link : PySem.W.isFn K (.ref (He.fAd K ("Reading", some "take_link"))) = true := all_at hx0 38 (PySem.W.isFn K (.ref (He.fAd K ("Reading", some "take_link")))) rfl
  have a_is_signs : PySem.W.nsIn K mainGlobals "is_signs" = some (some (.ref (He.fAd K ("is_signs", none)))) := of_decide_eq_true (all_at hx0 39 (decide (PySem.W.nsIn K mainGlobals "is_signs" = some (some (.ref (He.fAd K ("is_signs", none)))))) rfl)
  have a_out_of : PySem.W.nsIn K mainGlobals "out_of" = some (some (.ref (He.fAd K ("out_of", none)))) := of_decide_eq_true (all_at hx1 0 (decide (PySem.W.nsIn K mainGlobals "out_of" = some (some (.ref (He.fAd K ("out_of", none)))))) rfl)
  have a_rule_of : PySem.W.nsIn K mainGlobals "rule_of" = some (some (.ref (He.fAd K ("rule_of", none)))) := of_decide_eq_true (all_at hx1 1 (decide (PySem.W.nsIn K mainGlobals "rule_of" = some (some (.ref (He.fAd K ("rule_of", none)))))) rfl)
  have a_Reading_take_rule : PySem.W.findIn K (.ref (He.ga K "Reading")) "take_rule" = some (some (.ref (He.fAd K ("Reading", some "take_rule")))) := of_decide_eq_true (all_at hx1 2 (decide (PySem.W.findIn K (.ref (He.ga K "Reading")) "take_rule" = some (some (.ref (He.fAd K ("Reading", some "take_rule")))))) rfl)
  have i_Reading_take_rule : PySem.W.isFn K (.ref (He.fAd K ("Reading", some "take_rule"))) = true := all_at hx1 3 (PySem.W.isFn K (.ref (He.fAd K ("Reading", some "take_rule")))) rfl
  have a_Reading_take : PySem.W.findIn K (.ref (He.ga K "Reading")) "take" = some (some (.ref (He.fAd K ("Reading", some "take")))) := of_decide_eq_true (all_at hx1 4 (decide (PySem.W.findIn K (.ref (He.ga K "Reading")) "take" = some (some (.ref (He.fAd K ("Reading", some "take")))))) rfl)
  have i_Reading_take : PySem.W.isFn K (.ref (He.fAd K ("Reading", some "take"))) = true := all_at hx1 5 (PySem.W.isFn K (.ref (He.fAd K ("Reading", some "take")))) rfl
  have a_is_whole : PySem.W.nsIn K mainGlobals "is_whole" = some (some (.ref (He.fAd K ("is_whole", none)))) := of_decide_eq_true (all_at hx1 6 (decide (PySem.W.nsIn K mainGlobals "is_whole" = some (some (.ref (He.fAd K ("is_whole", none)))))) rfl)
  have a_is_below : PySem.W.nsIn K mainGlobals "is_below" = some (some (.ref (He.fAd K ("is_below", none)))) := of_decide_eq_true (all_at hx1 7 (decide (PySem.W.nsIn K mainGlobals "is_below" = some (some (.ref (He.fAd K ("is_below", none)))))) rfl)
  have a_is_place : PySem.W.nsIn K mainGlobals "is_place" = some (some (.ref (He.fAd K ("is_place", none)))) := of_decide_eq_true (all_at hx1 8 (decide (PySem.W.nsIn K mainGlobals "is_place" = some (some (.ref (He.fAd K ("is_place", none)))))) rfl)
  have a_look_at_links : PySem.W.nsIn K mainGlobals "look_at_links" = some (some (.ref (He.fAd K ("look_at_links", none)))) := of_decide_eq_true (all_at hx1 9 (decide (PySem.W.nsIn K mainGlobals "look_at_links" = some (some (.ref (He.fAd K ("look_at_links", none)))))) rfl)
  have a_is_width : PySem.W.nsIn K mainGlobals "is_width" = some (some (.ref (He.fAd K ("is_width", none)))) := of_decide_eq_true (all_at hx1 10 (decide (PySem.W.nsIn K mainGlobals "is_width" = some (some (.ref (He.fAd K ("is_width", none)))))) rfl)
  have a_is_of : PySem.W.nsIn K mainGlobals "is_of" = some (some (.ref (He.fAd K ("is_of", none)))) := of_decide_eq_true (all_at hx1 11 (decide (PySem.W.nsIn K mainGlobals "is_of" = some (some (.ref (He.fAd K ("is_of", none)))))) rfl)
  have a_is_pattern : PySem.W.nsIn K mainGlobals "is_pattern" = some (some (.ref (He.fAd K ("is_pattern", none)))) := of_decide_eq_true (all_at hx1 12 (decide (PySem.W.nsIn K mainGlobals "is_pattern" = some (some (.ref (He.fAd K ("is_pattern", none)))))) rfl)
  have a_is_out : PySem.W.nsIn K mainGlobals "is_out" = some (some (.ref (He.fAd K ("is_out", none)))) := of_decide_eq_true (all_at hx1 13 (decide (PySem.W.nsIn K mainGlobals "is_out" = some (some (.ref (He.fAd K ("is_out", none)))))) rfl)
  have a_is_rule : PySem.W.nsIn K mainGlobals "is_rule" = some (some (.ref (He.fAd K ("is_rule", none)))) := of_decide_eq_true (all_at hx1 14 (decide (PySem.W.nsIn K mainGlobals "is_rule" = some (some (.ref (He.fAd K ("is_rule", none)))))) rfl)
  have a_look_at_switch : PySem.W.nsIn K mainGlobals "look_at_switch" = some (some (.ref (He.fAd K ("look_at_switch", none)))) := of_decide_eq_true (all_at hx1 15 (decide (PySem.W.nsIn K mainGlobals "look_at_switch" = some (some (.ref (He.fAd K ("look_at_switch", none)))))) rfl)
  have a_look_at_net : PySem.W.nsIn K mainGlobals "look_at_net" = some (some (.ref (He.fAd K ("look_at_net", none)))) := of_decide_eq_true (all_at hx1 16 (decide (PySem.W.nsIn K mainGlobals "look_at_net" = some (some (.ref (He.fAd K ("look_at_net", none)))))) rfl)
  have a_Reading_net : PySem.W.findIn K (.ref (He.ga K "Reading")) "net" = some (some (.ref (He.fAd K ("Reading", some "net")))) := of_decide_eq_true (all_at hx1 17 (decide (PySem.W.findIn K (.ref (He.ga K "Reading")) "net" = some (some (.ref (He.fAd K ("Reading", some "net")))))) rfl)
  have i_Reading_net : PySem.W.isFn K (.ref (He.fAd K ("Reading", some "net"))) = true := all_at hx1 18 (PySem.W.isFn K (.ref (He.fAd K ("Reading", some "net")))) rfl
  have a_read : PySem.W.nsIn K mainGlobals "read" = some (some (.ref (He.fAd K ("read", none)))) := of_decide_eq_true (all_at hx1 19 (decide (PySem.W.nsIn K mainGlobals "read" = some (some (.ref (He.fAd K ("read", none)))))) rfl)
  have a_shown_outs : PySem.W.nsIn K mainGlobals "shown_outs" = some (some (.ref (He.fAd K ("shown_outs", none)))) := of_decide_eq_true (all_at hx1 20 (decide (PySem.W.nsIn K mainGlobals "shown_outs" = some (some (.ref (He.fAd K ("shown_outs", none)))))) rfl)
  have a_shown_rule : PySem.W.nsIn K mainGlobals "shown_rule" = some (some (.ref (He.fAd K ("shown_rule", none)))) := of_decide_eq_true (all_at hx1 21 (decide (PySem.W.nsIn K mainGlobals "shown_rule" = some (some (.ref (He.fAd K ("shown_rule", none)))))) rfl)
  have a_shown_place : PySem.W.nsIn K mainGlobals "shown_place" = some (some (.ref (He.fAd K ("shown_place", none)))) := of_decide_eq_true (all_at hx1 22 (decide (PySem.W.nsIn K mainGlobals "shown_place" = some (some (.ref (He.fAd K ("shown_place", none)))))) rfl)
  have a_shown : PySem.W.nsIn K mainGlobals "shown" = some (some (.ref (He.fAd K ("shown", none)))) := of_decide_eq_true (all_at hx1 23 (decide (PySem.W.nsIn K mainGlobals "shown" = some (some (.ref (He.fAd K ("shown", none)))))) rfl)
  have a_law : PySem.W.nsIn K mainGlobals "law" = some (some (.ref (He.fAd K ("law", none)))) := of_decide_eq_true (all_at hx1 24 (decide (PySem.W.nsIn K mainGlobals "law" = some (some (.ref (He.fAd K ("law", none)))))) rfl)
  have z_len : PySem.W.nsIn K mainGlobals "len" = some none := of_decide_eq_true (all_at hx1 25 (decide (PySem.W.nsIn K mainGlobals "len" = some none)) rfl)
  have z_range : PySem.W.nsIn K mainGlobals "range" = some none := of_decide_eq_true (all_at hx1 26 (decide (PySem.W.nsIn K mainGlobals "range" = some none)) rfl)
  have z_enumerate : PySem.W.nsIn K mainGlobals "enumerate" = some none := of_decide_eq_true (all_at hx1 27 (decide (PySem.W.nsIn K mainGlobals "enumerate" = some none)) rfl)
  have z_min : PySem.W.nsIn K mainGlobals "min" = some none := of_decide_eq_true (all_at hx1 28 (decide (PySem.W.nsIn K mainGlobals "min" = some none)) rfl)
  have z_max : PySem.W.nsIn K mainGlobals "max" = some none := of_decide_eq_true (all_at hx1 29 (decide (PySem.W.nsIn K mainGlobals "max" = some none)) rfl)
  have z_int : PySem.W.nsIn K mainGlobals "int" = some none := of_decide_eq_true (all_at hx1 30 (decide (PySem.W.nsIn K mainGlobals "int" = some none)) rfl)
  have z_str : PySem.W.nsIn K mainGlobals "str" = some none := of_decide_eq_true (all_at hx1 31 (decide (PySem.W.nsIn K mainGlobals "str" = some none)) rfl)
  have z_all : PySem.W.nsIn K mainGlobals "all" = some none := of_decide_eq_true (all_at hx1 32 (decide (PySem.W.nsIn K mainGlobals "all" = some none)) rfl)
  have z_tuple : PySem.W.nsIn K mainGlobals "tuple" = some none := of_decide_eq_true (all_at hx1 33 (decide (PySem.W.nsIn K mainGlobals "tuple" = some none)) rfl)
  have z_isinstance : PySem.W.nsIn K mainGlobals "isinstance" = some none := of_decide_eq_true (all_at hx1 34 (decide (PySem.W.nsIn K mainGlobals "isinstance" = some none)) rfl)
  have z_bool : PySem.W.nsIn K mainGlobals "bool" = some none := of_decide_eq_true (all_at hx1 35 (decide (PySem.W.nsIn K mainGlobals "bool" = some none)) rfl)
  have z_list : PySem.W.nsIn K mainGlobals "list" = some none := of_decide_eq_true (all_at hx1 36 (decide (PySem.W.nsIn K mainGlobals "list" = some none)) rfl)
  have z_repr : PySem.W.nsIn K mainGlobals "repr" = some none := of_decide_eq_true (all_at hx1 37 (decide (PySem.W.nsIn K mainGlobals "repr" = some none)) rfl)
  have na_Reading_own_links : PySem.W.findIn K (.ref (He.ga K "Reading")) "own_links" = some none := of_decide_eq_true (all_at hx1 38 (decide (PySem.W.findIn K (.ref (He.ga K "Reading")) "own_links" = some none)) rfl)
  have na_Reading_own_switches : PySem.W.findIn K (.ref (He.ga K "Reading")) "own_switches" = some none := of_decide_eq_true (all_at hx1 39 (decide (PySem.W.findIn K (.ref (He.ga K "Reading")) "own_switches" = some none)) rfl)
  have na_Reading_own_width : PySem.W.findIn K (.ref (He.ga K "Reading")) "own_width" = some none := of_decide_eq_true (all_at hx2 0 (decide (PySem.W.findIn K (.ref (He.ga K "Reading")) "own_width" = some none)) rfl)
  obtain ⟨_, v_MOST_WIDTH⟩ := intAt_ok (all_at hx2 1 (intAt K mainGlobals "MOST_WIDTH" 16) rfl)
  obtain ⟨_, v_MOST_SWITCHES⟩ := intAt_ok (all_at hx2 2 (intAt K mainGlobals "MOST_SWITCHES" 8) rfl)
  obtain ⟨_, v_MOST_DOORS⟩ := intAt_ok (all_at hx2 3 (intAt K mainGlobals "MOST_DOORS" 6) rfl)
  obtain ⟨_, v_MOST_RULES⟩ := intAt_ok (all_at hx2 4 (intAt K mainGlobals "MOST_RULES" 20) rfl)
  obtain ⟨_, v_MOST_OUTS⟩ := intAt_ok (all_at hx2 5 (intAt K mainGlobals "MOST_OUTS" 3) rfl)
  obtain ⟨_, v_MOST_LINKS⟩ := intAt_ok (all_at hx2 6 (intAt K mainGlobals "MOST_LINKS" 24) rfl)
  obtain ⟨_, v_FIGURES⟩ := strAt_ok (all_at hx2 7 (strAt K mainGlobals "FIGURES" ⟨[48, 49, 50, 51, 52, 53, 54, 55, 56, 57].toArray⟩) rfl)
  obtain ⟨_, v_SIGNS⟩ := strAt_ok (all_at hx2 8 (strAt K mainGlobals "SIGNS" ⟨[48, 49, 42].toArray⟩) rfl)
  obtain ⟨_, v_MOST_FIGURES⟩ := intAt_ok (all_at hx2 9 (intAt K mainGlobals "MOST_FIGURES" 9) rfl)
  obtain ⟨_, _, _, _, _, _, _, _, _, l__law_cell_at, c__law_cell_at, k__law_cell_at⟩ := def0 (nm := "_law_cell_at") (ql := "_law_cell_at") (ps := defArgs My.s__law_cell_at) (bd := defBody My.s__law_cell_at) (sc := defScope My.s__law_cell_at) (f := (He.fAd K ("_law_cell_at", none))) (c.t.d.def_ 0 (d := d__law_cell_at) rfl)
  obtain ⟨_, _, _, _, _, _, _, _, _, l__law_pool, c__law_pool, k__law_pool⟩ := def0 (nm := "_law_pool") (ql := "_law_pool") (ps := defArgs My.s__law_pool) (bd := defBody My.s__law_pool) (sc := defScope My.s__law_pool) (f := (He.fAd K ("_law_pool", none))) (c.t.d.def_ 1 (d := d__law_pool) rfl)
  obtain ⟨_, _, _, _, _, _, _, _, _, l__law_take, c__law_take, k__law_take⟩ := def0 (nm := "_law_take") (ql := "_law_take") (ps := defArgs My.s__law_take) (bd := defBody My.s__law_take) (sc := defScope My.s__law_take) (f := (He.fAd K ("_law_take", none))) (c.t.d.def_ 2 (d := d__law_take) rfl)
  obtain ⟨_, _, _, _, _, _, _, _, _, l__law_text, c__law_text, k__law_text⟩ := def0 (nm := "_law_text") (ql := "_law_text") (ps := defArgs My.s__law_text) (bd := defBody My.s__law_text) (sc := defScope My.s__law_text) (f := (He.fAd K ("_law_text", none))) (c.t.d.def_ 3 (d := d__law_text) rfl)
  obtain ⟨_, _, _, _, _, _, _, _, _, l__law_pattern, c__law_pattern, k__law_pattern⟩ := def0 (nm := "_law_pattern") (ql := "_law_pattern") (ps := defArgs My.s__law_pattern) (bd := defBody My.s__law_pattern) (sc := defScope My.s__law_pattern) (f := (He.fAd K ("_law_pattern", none))) (c.t.d.def_ 4 (d := d__law_pattern) rfl)
  obtain ⟨_, _, _, _, _, _, _, _, _, l__law_rule, c__law_rule, k__law_rule⟩ := def0 (nm := "_law_rule") (ql := "_law_rule") (ps := defArgs My.s__law_rule) (bd := defBody My.s__law_rule) (sc := defScope My.s__law_rule) (f := (He.fAd K ("_law_rule", none))) (c.t.d.def_ 5 (d := d__law_rule) rfl)
  obtain ⟨_, _, _, _, _, _, _, _, _, l__law_net, c__law_net, k__law_net⟩ := def0 (nm := "_law_net") (ql := "_law_net") (ps := defArgs My.s__law_net) (bd := defBody My.s__law_net) (sc := defScope My.s__law_net) (f := (He.fAd K ("_law_net", none))) (c.t.d.def_ 6 (d := d__law_net) rfl)
  obtain ⟨_, _, _, _, _, _, _, _, _, l__law_rule_row, c__law_rule_row, k__law_rule_row⟩ := def0 (nm := "_law_rule_row") (ql := "_law_rule_row") (ps := defArgs My.s__law_rule_row) (bd := defBody My.s__law_rule_row) (sc := defScope My.s__law_rule_row) (f := (He.fAd K ("_law_rule_row", none))) (c.t.d.def_ 7 (d := d__law_rule_row) rfl)
  obtain ⟨_, _, _, _, _, _, _, _, _, l__law_spot, c__law_spot, k__law_spot⟩ := def0 (nm := "_law_spot") (ql := "_law_spot") (ps := defArgs My.s__law_spot) (bd := defBody My.s__law_spot) (sc := defScope My.s__law_spot) (f := (He.fAd K ("_law_spot", none))) (c.t.d.def_ 8 (d := d__law_spot) rfl)
  obtain ⟨_, _, _, _, _, _, _, _, _, l__law_written, c__law_written, k__law_written⟩ := def0 (nm := "_law_written") (ql := "_law_written") (ps := defArgs My.s__law_written) (bd := defBody My.s__law_written) (sc := defScope My.s__law_written) (f := (He.fAd K ("_law_written", none))) (c.t.d.def_ 9 (d := d__law_written) rfl)
  obtain ⟨_, _, _, _, _, _, _, _, _, l_Reading___init__, c_Reading___init__, k_Reading___init__⟩ := def0 (nm := "__init__") (ql := "Reading.__init__") (ps := defArgs My.s_Reading___init__) (bd := defBody My.s_Reading___init__) (sc := defScope My.s_Reading___init__) (f := (He.fAd K ("Reading", some "__init__"))) (c.t.d.def_ 10 (d := d_Reading___init__) rfl)
  obtain ⟨_, _, _, _, _, _, _, _, _, l_Reading_netM, c_Reading_netM, k_Reading_netM⟩ := def0 (nm := "net") (ql := "Reading.net") (ps := defArgs My.s_Reading_netM) (bd := defBody My.s_Reading_netM) (sc := defScope My.s_Reading_netM) (f := (He.fAd K ("Reading", some "net"))) (c.t.d.def_ 11 (d := d_Reading_netM) rfl)
  obtain ⟨_, _, _, _, _, _, _, _, _, l_number_of, c_number_of, k_number_of⟩ := def0 (nm := "number_of") (ql := "number_of") (ps := defArgs My.s_number_of) (bd := defBody My.s_number_of) (sc := defScope My.s_number_of) (f := (He.fAd K ("number_of", none))) (c.t.d.def_ 12 (d := d_number_of) rfl)
  obtain ⟨_, _, _, _, _, _, _, _, _, l_Reading_take_width, c_Reading_take_width, k_Reading_take_width⟩ := def0 (nm := "take_width") (ql := "Reading.take_width") (ps := defArgs My.s_Reading_take_width) (bd := defBody My.s_Reading_take_width) (sc := defScope My.s_Reading_take_width) (f := (He.fAd K ("Reading", some "take_width"))) (c.t.d.def_ 13 (d := d_Reading_take_width) rfl)
  obtain ⟨_, _, _, _, _, _, _, _, _, l_Reading_take_switch, c_Reading_take_switch, k_Reading_take_switch⟩ := def0 (nm := "take_switch") (ql := "Reading.take_switch") (ps := defArgs My.s_Reading_take_switch) (bd := defBody My.s_Reading_take_switch) (sc := defScope My.s_Reading_take_switch) (f := (He.fAd K ("Reading", some "take_switch"))) (c.t.d.def_ 14 (d := d_Reading_take_switch) rfl)
  obtain ⟨_, _, _, _, _, _, _, _, _, l_place_of, c_place_of, k_place_of⟩ := def0 (nm := "place_of") (ql := "place_of") (ps := defArgs My.s_place_of) (bd := defBody My.s_place_of) (sc := defScope My.s_place_of) (f := (He.fAd K ("place_of", none))) (c.t.d.def_ 15 (d := d_place_of) rfl)
  obtain ⟨_, _, _, _, _, _, _, _, _, l_Reading_take_link, c_Reading_take_link, k_Reading_take_link⟩ := def0 (nm := "take_link") (ql := "Reading.take_link") (ps := defArgs My.s_Reading_take_link) (bd := defBody My.s_Reading_take_link) (sc := defScope My.s_Reading_take_link) (f := (He.fAd K ("Reading", some "take_link"))) (c.t.d.def_ 16 (d := d_Reading_take_link) rfl)
  obtain ⟨_, _, _, _, _, _, _, _, _, l_is_signs, c_is_signs, k_is_signs⟩ := def0 (nm := "is_signs") (ql := "is_signs") (ps := defArgs My.s_is_signs) (bd := defBody My.s_is_signs) (sc := defScope My.s_is_signs) (f := (He.fAd K ("is_signs", none))) (c.t.d.def_ 17 (d := d_is_signs) rfl)
  obtain ⟨_, _, _, _, _, _, _, _, _, l_out_of, c_out_of, k_out_of⟩ := def0 (nm := "out_of") (ql := "out_of") (ps := defArgs My.s_out_of) (bd := defBody My.s_out_of) (sc := defScope My.s_out_of) (f := (He.fAd K ("out_of", none))) (c.t.d.def_ 18 (d := d_out_of) rfl)
  obtain ⟨_, _, _, _, _, _, _, _, _, l_rule_of, c_rule_of, k_rule_of⟩ := def0 (nm := "rule_of") (ql := "rule_of") (ps := defArgs My.s_rule_of) (bd := defBody My.s_rule_of) (sc := defScope My.s_rule_of) (f := (He.fAd K ("rule_of", none))) (c.t.d.def_ 19 (d := d_rule_of) rfl)
  obtain ⟨_, _, _, _, _, _, _, _, _, l_Reading_take_rule, c_Reading_take_rule, k_Reading_take_rule⟩ := def0 (nm := "take_rule") (ql := "Reading.take_rule") (ps := defArgs My.s_Reading_take_rule) (bd := defBody My.s_Reading_take_rule) (sc := defScope My.s_Reading_take_rule) (f := (He.fAd K ("Reading", some "take_rule"))) (c.t.d.def_ 20 (d := d_Reading_take_rule) rfl)
  obtain ⟨_, _, _, _, _, _, _, _, _, l_Reading_take, c_Reading_take, k_Reading_take⟩ := def0 (nm := "take") (ql := "Reading.take") (ps := defArgs My.s_Reading_take) (bd := defBody My.s_Reading_take) (sc := defScope My.s_Reading_take) (f := (He.fAd K ("Reading", some "take"))) (c.t.d.def_ 21 (d := d_Reading_take) rfl)
  obtain ⟨_, _, _, _, _, _, _, _, _, l_is_whole, c_is_whole, k_is_whole⟩ := def0 (nm := "is_whole") (ql := "is_whole") (ps := defArgs My.s_is_whole) (bd := defBody My.s_is_whole) (sc := defScope My.s_is_whole) (f := (He.fAd K ("is_whole", none))) (c.t.d.def_ 22 (d := d_is_whole) rfl)
  obtain ⟨_, _, _, _, _, _, _, _, _, l_is_below, c_is_below, k_is_below⟩ := def0 (nm := "is_below") (ql := "is_below") (ps := defArgs My.s_is_below) (bd := defBody My.s_is_below) (sc := defScope My.s_is_below) (f := (He.fAd K ("is_below", none))) (c.t.d.def_ 23 (d := d_is_below) rfl)
  obtain ⟨_, _, _, _, _, _, _, _, _, l_is_place, c_is_place, k_is_place⟩ := def0 (nm := "is_place") (ql := "is_place") (ps := defArgs My.s_is_place) (bd := defBody My.s_is_place) (sc := defScope My.s_is_place) (f := (He.fAd K ("is_place", none))) (c.t.d.def_ 24 (d := d_is_place) rfl)
  obtain ⟨_, _, _, _, _, _, _, _, _, l_look_at_links, c_look_at_links, k_look_at_links⟩ := def0 (nm := "look_at_links") (ql := "look_at_links") (ps := defArgs My.s_look_at_links) (bd := defBody My.s_look_at_links) (sc := defScope My.s_look_at_links) (f := (He.fAd K ("look_at_links", none))) (c.t.d.def_ 25 (d := d_look_at_links) rfl)
  obtain ⟨_, _, _, _, _, _, _, _, _, l_is_width, c_is_width, k_is_width⟩ := def0 (nm := "is_width") (ql := "is_width") (ps := defArgs My.s_is_width) (bd := defBody My.s_is_width) (sc := defScope My.s_is_width) (f := (He.fAd K ("is_width", none))) (c.t.d.def_ 26 (d := d_is_width) rfl)
  obtain ⟨_, _, _, _, _, _, _, _, _, l_is_of, c_is_of, k_is_of⟩ := def0 (nm := "is_of") (ql := "is_of") (ps := defArgs My.s_is_of) (bd := defBody My.s_is_of) (sc := defScope My.s_is_of) (f := (He.fAd K ("is_of", none))) (c.t.d.def_ 27 (d := d_is_of) rfl)
  obtain ⟨_, _, _, _, _, _, _, _, _, l_is_pattern, c_is_pattern, k_is_pattern⟩ := def0 (nm := "is_pattern") (ql := "is_pattern") (ps := defArgs My.s_is_pattern) (bd := defBody My.s_is_pattern) (sc := defScope My.s_is_pattern) (f := (He.fAd K ("is_pattern", none))) (c.t.d.def_ 28 (d := d_is_pattern) rfl)
  obtain ⟨_, _, _, _, _, _, _, _, _, l_is_out, c_is_out, k_is_out⟩ := def0 (nm := "is_out") (ql := "is_out") (ps := defArgs My.s_is_out) (bd := defBody My.s_is_out) (sc := defScope My.s_is_out) (f := (He.fAd K ("is_out", none))) (c.t.d.def_ 29 (d := d_is_out) rfl)
  obtain ⟨_, _, _, _, _, _, _, _, _, l_is_rule, c_is_rule, k_is_rule⟩ := def0 (nm := "is_rule") (ql := "is_rule") (ps := defArgs My.s_is_rule) (bd := defBody My.s_is_rule) (sc := defScope My.s_is_rule) (f := (He.fAd K ("is_rule", none))) (c.t.d.def_ 30 (d := d_is_rule) rfl)
  obtain ⟨_, _, _, _, _, _, _, _, _, l_look_at_switch, c_look_at_switch, k_look_at_switch⟩ := def0 (nm := "look_at_switch") (ql := "look_at_switch") (ps := defArgs My.s_look_at_switch) (bd := defBody My.s_look_at_switch) (sc := defScope My.s_look_at_switch) (f := (He.fAd K ("look_at_switch", none))) (c.t.d.def_ 31 (d := d_look_at_switch) rfl)
  obtain ⟨_, _, _, _, _, _, _, _, _, l_look_at_net, c_look_at_net, k_look_at_net⟩ := def0 (nm := "look_at_net") (ql := "look_at_net") (ps := defArgs My.s_look_at_net) (bd := defBody My.s_look_at_net) (sc := defScope My.s_look_at_net) (f := (He.fAd K ("look_at_net", none))) (c.t.d.def_ 32 (d := d_look_at_net) rfl)
  obtain ⟨_, _, _, _, _, _, _, _, _, l_Reading_net, c_Reading_net, k_Reading_net⟩ := def0 (nm := "net") (ql := "Reading.net") (ps := defArgs My.s_Reading_net) (bd := defBody My.s_Reading_net) (sc := defScope My.s_Reading_net) (f := (He.fAd K ("Reading", some "net"))) (c.t.d.def_ 33 (d := d_Reading_net) rfl)
  obtain ⟨_, _, _, _, _, _, _, _, _, l_read, c_read, k_read⟩ := def0 (nm := "read") (ql := "read") (ps := defArgs My.s_read) (bd := defBody My.s_read) (sc := defScope My.s_read) (f := (He.fAd K ("read", none))) (c.t.d.def_ 34 (d := d_read) rfl)
  obtain ⟨_, _, _, _, _, _, _, _, _, l_shown_outs, c_shown_outs, k_shown_outs⟩ := def0 (nm := "shown_outs") (ql := "shown_outs") (ps := defArgs My.s_shown_outs) (bd := defBody My.s_shown_outs) (sc := defScope My.s_shown_outs) (f := (He.fAd K ("shown_outs", none))) (c.t.d.def_ 35 (d := d_shown_outs) rfl)
  obtain ⟨_, _, _, _, _, _, _, _, _, l_shown_rule, c_shown_rule, k_shown_rule⟩ := def0 (nm := "shown_rule") (ql := "shown_rule") (ps := defArgs My.s_shown_rule) (bd := defBody My.s_shown_rule) (sc := defScope My.s_shown_rule) (f := (He.fAd K ("shown_rule", none))) (c.t.d.def_ 36 (d := d_shown_rule) rfl)
  obtain ⟨_, _, _, _, _, _, _, _, _, l_shown_place, c_shown_place, k_shown_place⟩ := def0 (nm := "shown_place") (ql := "shown_place") (ps := defArgs My.s_shown_place) (bd := defBody My.s_shown_place) (sc := defScope My.s_shown_place) (f := (He.fAd K ("shown_place", none))) (c.t.d.def_ 37 (d := d_shown_place) rfl)
  obtain ⟨_, _, _, _, _, _, _, _, _, l_shown, c_shown, k_shown⟩ := def0 (nm := "shown") (ql := "shown") (ps := defArgs My.s_shown) (bd := defBody My.s_shown) (sc := defScope My.s_shown) (f := (He.fAd K ("shown", none))) (c.t.d.def_ 38 (d := d_shown) rfl)
  obtain ⟨_, _, _, _, _, _, _, _, _, l_law, c_law, k_law⟩ := def0 (nm := "law") (ql := "law") (ps := defArgs My.s_law) (bd := defBody My.s_law) (sc := defScope My.s_law) (f := (He.fAd K ("law", none))) (c.t.d.def_ 39 (d := d_law) rfl)
  exact My.all_mk (l := PySem.Challenge.rw_everyhead_k70_nets_written_and_read) My.law_holds X G hfa ag_Reading oc1_Reading oc2_Reading oc3_Reading oc4_Reading oh1_Reading oh2_Reading oh3_Reading oh5_Reading ot_int_Reading ot_bool_Reading ot_str_Reading ot_list_Reading ot_tuple_Reading ot_dict_Reading mk_Reading kc_Reading a__law_cell_at l__law_cell_at c__law_cell_at k__law_cell_at a__law_pool l__law_pool c__law_pool k__law_pool a__law_take l__law_take c__law_take k__law_take a__law_text l__law_text c__law_text k__law_text a__law_pattern l__law_pattern c__law_pattern k__law_pattern a__law_rule l__law_rule c__law_rule k__law_rule a__law_net l__law_net c__law_net k__law_net a__law_rule_row l__law_rule_row c__law_rule_row k__law_rule_row a__law_spot l__law_spot c__law_spot k__law_spot a__law_written l__law_written c__law_written k__law_written a_Reading___init__ i_Reading___init__ l_Reading___init__ c_Reading___init__ k_Reading___init__ a_Reading_netM i_Reading_netM l_Reading_netM c_Reading_netM k_Reading_netM a_number_of l_number_of c_number_of k_number_of a_Reading_take_width i_Reading_take_width l_Reading_take_width c_Reading_take_width k_Reading_take_width a_Reading_take_switch i_Reading_take_switch l_Reading_take_switch c_Reading_take_switch k_Reading_take_switch a_place_of l_place_of c_place_of k_place_of a_Reading_take_link i_Reading_take_link l_Reading_take_link c_Reading_take_link k_Reading_take_link a_is_signs l_is_signs c_is_signs k_is_signs a_out_of l_out_of c_out_of k_out_of a_rule_of l_rule_of c_rule_of k_rule_of a_Reading_take_rule i_Reading_take_rule l_Reading_take_rule c_Reading_take_rule k_Reading_take_rule a_Reading_take i_Reading_take l_Reading_take c_Reading_take k_Reading_take a_is_whole l_is_whole c_is_whole k_is_whole a_is_below l_is_below c_is_below k_is_below a_is_place l_is_place c_is_place k_is_place a_look_at_links l_look_at_links c_look_at_links k_look_at_links a_is_width l_is_width c_is_width k_is_width a_is_of l_is_of c_is_of k_is_of a_is_pattern l_is_pattern c_is_pattern k_is_pattern a_is_out l_is_out c_is_out k_is_out a_is_rule l_is_rule c_is_rule k_is_rule a_look_at_switch l_look_at_switch c_look_at_switch k_look_at_switch a_look_at_net l_look_at_net c_look_at_net k_look_at_net a_Reading_net i_Reading_net l_Reading_net c_Reading_net k_Reading_net a_read l_read c_read k_read a_shown_outs l_shown_outs c_shown_outs k_shown_outs a_shown_rule l_shown_rule c_shown_rule k_shown_rule a_shown_place l_shown_place c_shown_place k_shown_place a_shown l_shown c_shown k_shown a_law l_law c_law k_law z_len z_range z_enumerate z_min z_max z_int z_str z_all z_tuple z_isinstance z_bool z_list z_repr na_Reading_own_links na_Reading_own_switches na_Reading_own_width v_MOST_WIDTH v_MOST_SWITCHES v_MOST_DOORS v_MOST_RULES v_MOST_OUTS v_MOST_LINKS v_FIGURES v_SIGNS v_MOST_FIGURES
end MyH
open PySem PySem.W PySem.Calls PyProof.Rows
set_option maxRecDepth 100000 in
set_option maxHeartbeats 0 in
theorem PySem.Challenge.cw_everyhead_k70_nets_written_and_read_holds : PySem.Challenge.rw_everyhead_k70_nets_written_and_read.Holds := by
  w_on; o_law
  refine HandSHeadRun.head_any (r := OpenLaw.row PySem.Challenge.rw_everyhead_k70_nets_written_and_read) (q := MyH.qv) (H := MyH.hk) (ob := MyH.ob) (M := 20000) (loose := MyH.names) (d := HandSHeadRun.topDef (OpenLaw.row PySem.Challenge.rw_everyhead_k70_nets_written_and_read).prog 49) (kwd := []) MyH.ob_eq
    (by kernel_rfl) (fun s => by kernel_rfl) MyH.run (by kernel_rfl) (by kernel_rfl) (by kernel_rfl) (by rfl) (by first | assumption | decide +kernel) (by decide +kernel) ⟨rfl, rfl, rfl, rfl, rfl, by decide +kernel⟩ ?hw ?hc
  case hw => w_witness2
  case hc =>
    refine DL.walk_lawE (l := PySem.Challenge.rw_everyhead_k70_nets_written_and_read) (k := 13) (x := "_law_script") (by decide) rfl (by kernel_rfl) ?F
    intro w mg fa h Y G hmg0
    obtain ⟨K, KX, c⟩ := Y
    have hmg : mg ("law" : PySem.Str) = some (.ref fa) := by
      have e : (HandSHeadRun.topDef (OpenLaw.row PySem.Challenge.rw_everyhead_k70_nets_written_and_read).prog 49).name = ("law" : PySem.Str) := by kernel_rfl
      rw [← e]
      exact hmg0
    exact ⟨K, KX, MyH.facts KX G hmg c⟩
#print axioms PySem.Challenge.cw_everyhead_k70_nets_written_and_read_holds

