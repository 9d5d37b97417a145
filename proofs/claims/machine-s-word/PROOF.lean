import PyProof.Rows.All
import Wide.All
import OpenK.AllK
import Wide.FinOn
import KE.KStateDown
import HandS.Base
import HandS.Call
import HandS.Ends
import HandS.More
import HandS.Words
import HandS.WordsExc
import HandS.Defaults
import HandS.Head0
import HandS.Head1
import HandS.Head2
import HandS.HeadEnd
import HandS.HeadHook1
import HandS.HeadHook2
import HandS.HeadHook3
import HandS.HeadHook4
import HandS.ClsMeth
import HandS.Codes
import PySem.Str
import HandS.ForMost
import HandS.ForExc
import HandS.Small
import HandS.IsInst
import HandS.TupAny
import HandS.Strs
import HandS.Set
import HandS.Style
import HandS.Deep
import HandS.Walk
import PyProof.Rows.SortShellAny
import HandS.TupSets
import HandS.ExcOwn
import HandS.Exc
import HandS.Zip
import PySem.Challenge.RW_graftform_k37_whole_the_machine_s_word
section
set_option Elab.async false
set_option linter.all false
set_option maxRecDepth 100000
set_option maxHeartbeats 0
namespace KG
open PySem PySem.Spec PyProof.Rows L2
def top (i : Nat) : Stmt := PySem.Challenge.pw_graftform_k37_whole_the_machine_s_word.main.body.getD i (.Pass ⟨0, 0, 0, 0⟩)
abbrev sGrowerInit : Stmt := inClass (top 8) 0
abbrev sGrowerNumber : Stmt := inClass (top 8) 2
abbrev sGrowerTables : Stmt := inClass (top 8) 3
abbrev sMarkOf : Stmt := top 9
abbrev sStartOf : Stmt := top 10
abbrev sOneInit : Stmt := inClass (top 13) 0
abbrev sOneTold : Stmt := inClass (top 13) 1
abbrev sOneBare : Stmt := inClass (top 13) 2
abbrev sOneLeft : Stmt := inClass (top 13) 3
abbrev sOneSpeaks : Stmt := inClass (top 13) 4
abbrev sChainInit : Stmt := inClass (top 14) 0
abbrev sChainTold : Stmt := inClass (top 14) 1
abbrev sChainBare : Stmt := inClass (top 14) 2
abbrev sChainLeft : Stmt := inClass (top 14) 3
abbrev sChainSpeaks : Stmt := inClass (top 14) 4
abbrev sChoiceInit : Stmt := inClass (top 15) 0
abbrev sChoiceTold : Stmt := inClass (top 15) 1
abbrev sChoiceBare : Stmt := inClass (top 15) 2
abbrev sChoiceLeft : Stmt := inClass (top 15) 3
abbrev sChoiceSpeaks : Stmt := inClass (top 15) 4
abbrev sTimesInit : Stmt := inClass (top 16) 0
abbrev sTimesTold : Stmt := inClass (top 16) 1
abbrev sTimesBare : Stmt := inClass (top 16) 2
abbrev sTimesLeft : Stmt := inClass (top 16) 3
abbrev sTimesSpeaks : Stmt := inClass (top 16) 4
abbrev sMixedInit : Stmt := inClass (top 17) 0
abbrev sMixedTold : Stmt := inClass (top 17) 1
abbrev sMixedBare : Stmt := inClass (top 17) 2
abbrev sMixedLeft : Stmt := inClass (top 17) 3
abbrev sMixedSpeaks : Stmt := inClass (top 17) 4
abbrev sTolds : Stmt := top 18
abbrev sAllSpoken : Stmt := top 19
abbrev sPenned : Stmt := top 20
abbrev sEachOnce : Stmt := top 21
abbrev sIsEmpty : Stmt := top 22
abbrev sOne : Stmt := top 23
abbrev sChain : Stmt := top 24
abbrev sChoice : Stmt := top 25
abbrev sTimes : Stmt := top 26
abbrev sMixed : Stmt := top 27
abbrev sPatternOf : Stmt := top 28
abbrev sAllLeft : Stmt := top 30
abbrev sAnyBare : Stmt := top 31
abbrev sKeyOf : Stmt := top 32
abbrev sBookgrowerInit : Stmt := inClass (top 34) 0
abbrev sBookgrowerKept : Stmt := inClass (top 34) 1
abbrev sBookgrowerStart : Stmt := inClass (top 34) 2
abbrev sBookgrowerEnds : Stmt := inClass (top 34) 3
abbrev sBookgrowerGoesOn : Stmt := inClass (top 34) 4
abbrev sBookgrowerFormsHere : Stmt := inClass (top 34) 5
abbrev sBookgrowerStep : Stmt := inClass (top 34) 6
abbrev sMachineOf : Stmt := top 35
abbrev sStateOf : Stmt := top 36
abbrev sFormsOf : Stmt := top 37
abbrev sMarkBelow : Stmt := top 38
abbrev sMarked : Stmt := top 39
abbrev sBookOf : Stmt := top 41
abbrev sLawCellAt : Stmt := top 43
abbrev sLawMix : Stmt := top 44
abbrev sLawTape : Stmt := top 45
abbrev sLawNext : Stmt := top 46
abbrev sLawNames : Stmt := top 47
abbrev sLawJoined : Stmt := top 48
abbrev sLawSoMany : Stmt := top 49
abbrev sLawPart : Stmt := top 50
abbrev sLawTags : Stmt := top 51
abbrev sLawRules : Stmt := top 52
abbrev sLawMerged : Stmt := top 53
abbrev sLawMadeRow : Stmt := top 54
abbrev sLawChanged : Stmt := top 55
abbrev sLawNear : Stmt := top 56
abbrev sLawTimesFit : Stmt := top 57
abbrev sLawMixedFit : Stmt := top 58
abbrev sLawFits : Stmt := top 59
abbrev sLawSets : Stmt := top 60
abbrev sLawList : Stmt := top 61
abbrev sLawOrder : Stmt := top 62
abbrev sLawPlaceTold : Stmt := top 63
abbrev sLaw : Stmt := top 64
def dd (p : Str × Option Str) (x q : Str) (st : Stmt) (ds : List He.Dv := []) : He.DefD := ⟨p, x, q, defArgs st, defBody st, defScope st, ds, []⟩
def fn : List He.DefD := [
  dd ("Grower", some "__init__") "__init__" "Grower.__init__" sGrowerInit,
  dd ("BookGrower", some "number") "number" "Grower.number" sGrowerNumber,
  dd ("BookGrower", some "tables") "tables" "Grower.tables" sGrowerTables,
  dd ("mark_of", none) "mark_of" "mark_of" sMarkOf,
  dd ("start_of", none) "start_of" "start_of" sStartOf,
  dd ("One", some "__init__") "__init__" "One.__init__" sOneInit,
  dd ("One", some "told") "told" "One.told" sOneTold,
  dd ("One", some "bare") "bare" "One.bare" sOneBare,
  dd ("One", some "left") "left" "One.left" sOneLeft,
  dd ("One", some "speaks") "speaks" "One.speaks" sOneSpeaks,
  dd ("Chain", some "__init__") "__init__" "Chain.__init__" sChainInit,
  dd ("Chain", some "told") "told" "Chain.told" sChainTold,
  dd ("Chain", some "bare") "bare" "Chain.bare" sChainBare,
  dd ("Chain", some "left") "left" "Chain.left" sChainLeft,
  dd ("Chain", some "speaks") "speaks" "Chain.speaks" sChainSpeaks,
  dd ("Choice", some "__init__") "__init__" "Choice.__init__" sChoiceInit,
  dd ("Choice", some "told") "told" "Choice.told" sChoiceTold,
  dd ("Choice", some "bare") "bare" "Choice.bare" sChoiceBare,
  dd ("Choice", some "left") "left" "Choice.left" sChoiceLeft,
  dd ("Choice", some "speaks") "speaks" "Choice.speaks" sChoiceSpeaks,
  dd ("Times", some "__init__") "__init__" "Times.__init__" sTimesInit,
  dd ("Times", some "told") "told" "Times.told" sTimesTold,
  dd ("Times", some "bare") "bare" "Times.bare" sTimesBare,
  dd ("Times", some "left") "left" "Times.left" sTimesLeft,
  dd ("Times", some "speaks") "speaks" "Times.speaks" sTimesSpeaks,
  dd ("Mixed", some "__init__") "__init__" "Mixed.__init__" sMixedInit,
  dd ("Mixed", some "told") "told" "Mixed.told" sMixedTold,
  dd ("Mixed", some "bare") "bare" "Mixed.bare" sMixedBare,
  dd ("Mixed", some "left") "left" "Mixed.left" sMixedLeft,
  dd ("Mixed", some "speaks") "speaks" "Mixed.speaks" sMixedSpeaks,
  dd ("tolds", none) "tolds" "tolds" sTolds,
  dd ("all_spoken", none) "all_spoken" "all_spoken" sAllSpoken,
  dd ("penned", none) "penned" "penned" sPenned,
  dd ("each_once", none) "each_once" "each_once" sEachOnce,
  dd ("is_empty", none) "is_empty" "is_empty" sIsEmpty,
  dd ("one", none) "one" "one" sOne,
  dd ("chain", none) "chain" "chain" sChain,
  dd ("choice", none) "choice" "choice" sChoice,
  dd ("times", none) "times" "times" sTimes [.int 0, .non],
  dd ("mixed", none) "mixed" "mixed" sMixed,
  dd ("pattern_of", none) "pattern_of" "pattern_of" sPatternOf,
  dd ("all_left", none) "all_left" "all_left" sAllLeft,
  dd ("any_bare", none) "any_bare" "any_bare" sAnyBare,
  dd ("key_of", none) "key_of" "key_of" sKeyOf,
  dd ("BookGrower", some "__init__") "__init__" "BookGrower.__init__" sBookgrowerInit,
  dd ("BookGrower", some "kept") "kept" "BookGrower.kept" sBookgrowerKept,
  dd ("BookGrower", some "start") "start" "BookGrower.start" sBookgrowerStart,
  dd ("BookGrower", some "ends") "ends" "BookGrower.ends" sBookgrowerEnds,
  dd ("BookGrower", some "goes_on") "goes_on" "BookGrower.goes_on" sBookgrowerGoesOn,
  dd ("BookGrower", some "forms_here") "forms_here" "BookGrower.forms_here" sBookgrowerFormsHere,
  dd ("BookGrower", some "step") "step" "BookGrower.step" sBookgrowerStep,
  dd ("machine_of", none) "machine_of" "machine_of" sMachineOf,
  dd ("state_of", none) "state_of" "state_of" sStateOf,
  dd ("forms_of", none) "forms_of" "forms_of" sFormsOf,
  dd ("mark_below", none) "mark_below" "mark_below" sMarkBelow,
  dd ("marked", none) "marked" "marked" sMarked,
  dd ("book_of", none) "book_of" "book_of" sBookOf,
  dd ("_law_cell_at", none) "_law_cell_at" "_law_cell_at" sLawCellAt,
  dd ("_law_mix", none) "_law_mix" "_law_mix" sLawMix,
  dd ("_law_tape", none) "_law_tape" "_law_tape" sLawTape,
  dd ("_law_next", none) "_law_next" "_law_next" sLawNext,
  dd ("_law_names", none) "_law_names" "_law_names" sLawNames,
  dd ("_law_joined", none) "_law_joined" "_law_joined" sLawJoined,
  dd ("_law_so_many", none) "_law_so_many" "_law_so_many" sLawSoMany,
  dd ("_law_part", none) "_law_part" "_law_part" sLawPart,
  dd ("_law_tags", none) "_law_tags" "_law_tags" sLawTags,
  dd ("_law_rules", none) "_law_rules" "_law_rules" sLawRules,
  dd ("_law_merged", none) "_law_merged" "_law_merged" sLawMerged,
  dd ("_law_made_row", none) "_law_made_row" "_law_made_row" sLawMadeRow,
  dd ("_law_changed", none) "_law_changed" "_law_changed" sLawChanged,
  dd ("_law_near", none) "_law_near" "_law_near" sLawNear,
  dd ("_law_times_fit", none) "_law_times_fit" "_law_times_fit" sLawTimesFit,
  dd ("_law_mixed_fit", none) "_law_mixed_fit" "_law_mixed_fit" sLawMixedFit,
  dd ("_law_fits", none) "_law_fits" "_law_fits" sLawFits,
  dd ("_law_sets", none) "_law_sets" "_law_sets" sLawSets,
  dd ("_law_list", none) "_law_list" "_law_list" sLawList,
  dd ("_law_order", none) "_law_order" "_law_order" sLawOrder,
  dd ("_law_place_told", none) "_law_place_told" "_law_place_told" sLawPlaceTold,
  dd ("law", none) "law" "law" sLaw]
def fa : List He.Fa := [
  .glo "GraftError", .glo "NoPattern", .glo "NoBook", .glo "TooMany", .glo "Grower", .glo "mark_of",
  .glo "start_of", .glo "Pattern", .glo "One", .glo "Chain", .glo "Choice", .glo "Times",
  .glo "Mixed", .glo "tolds", .glo "all_spoken", .glo "penned", .glo "each_once", .glo "is_empty",
  .glo "one", .glo "chain", .glo "choice", .glo "times", .glo "mixed", .glo "pattern_of",
  .glo "all_left", .glo "any_bare", .glo "key_of", .glo "BookGrower", .glo "machine_of", .glo "state_of",
  .glo "forms_of", .glo "mark_below", .glo "marked", .glo "book_of", .glo "_law_cell_at", .glo "_law_mix",
  .glo "_law_tape", .glo "_law_next", .glo "_law_names", .glo "_law_joined", .glo "_law_so_many", .glo "_law_part",
  .glo "_law_tags", .glo "_law_rules", .glo "_law_merged", .glo "_law_made_row", .glo "_law_changed", .glo "_law_near",
  .glo "_law_times_fit", .glo "_law_mixed_fit", .glo "_law_fits", .glo "_law_sets", .glo "_law_list", .glo "_law_order",
  .glo "_law_place_told", .glo "law", .free "len", .free "range", .free "tuple", .free "list",
  .free "all", .free "any", .free "sorted", .free "set", .free "isinstance", .free "str",
  .free "int", .free "max", .free "min", .free "zip", .int "STATES" 64, .int "RULES" 8,
  .cls "One", .mkr "One", .cls "Chain", .mkr "Chain", .cls "Choice", .mkr "Choice",
  .cls "Times", .mkr "Times", .cls "Mixed", .mkr "Mixed", .cls "BookGrower", .mkr "BookGrower",
  .noat "One" "form", .noat "Chain" "parts", .noat "Choice" "parts", .noat "Times" "part", .noat "Times" "low", .noat "Times" "high",
  .noat "Mixed" "parts", .noat "BookGrower" "numbers", .noat "BookGrower" "states", .noat "BookGrower" "rules", .noat "BookGrower" "patterns", .noat "BookGrower" "behind",
  .noat "BookGrower" "formed", .meth "One" "told", .meth "One" "bare", .meth "One" "left", .meth "One" "speaks", .meth "Chain" "told",
  .meth "Chain" "bare", .meth "Chain" "left", .meth "Chain" "speaks", .meth "Choice" "told", .meth "Choice" "bare", .meth "Choice" "left",
  .meth "Choice" "speaks", .meth "Times" "told", .meth "Times" "bare", .meth "Times" "left", .meth "Times" "speaks", .meth "Mixed" "told",
  .meth "Mixed" "bare", .meth "Mixed" "left", .meth "Mixed" "speaks", .meth "BookGrower" "number", .meth "BookGrower" "tables", .meth "BookGrower" "kept",
  .meth "BookGrower" "start", .meth "BookGrower" "ends", .meth "BookGrower" "goes_on", .meth "BookGrower" "forms_here", .meth "BookGrower" "step", .exc "TooMany",
  .exm "TooMany" "TooMany" true, .meth "Grower" "__init__"]
/-- facts that the Hook's own words do not say: Grower.__init__ read off the class; what isinstance asks -/
def pcl : List Str := ["One", "Chain", "Choice", "Times", "Mixed"]
def ex (K : PySem.W.Frag) : Bool := PySem.W.readsIn K (He.ga K "Grower") (.type "type") && (decide (PySem.W.specialIn K (.ref (He.ga K "Grower")) "__getattribute__" = some (some (.builtin "type.__getattribute__"))) &&
  ((match PySem.W.findCls K (.ref (He.ga K "Grower")) (.type "type") "__init__" with
    | some (.val (.ref a)) => decide (a = He.ma K (He.ga K "Grower") "__init__")
    | _ => false) &&
  (decide (PySem.W.specialIn K (.builtin "object.__class__") "__get__" = some (some (.builtin "getset_descriptor.__get__"))) && (decide (PySem.W.takesIn K (.builtin "object.__class__") = some true) &&
  ((pcl.all fun x => decide (PySem.W.findIn K (.ref (He.ga K x)) "__class__" = some (some (.builtin "object.__class__"))) && decide (PySem.W.mroIn K (He.ga K x) (.type "object") = some true)) &&
  ((pcl.all fun x => pcl.all fun y => decide (PySem.W.kitOne K (.ref (He.ga K x)) (.ref (He.ga K y)) = some (decide (x = y)))) && (pcl.all fun x => PySem.W.keepIn K (.ref (He.ga K x)))))))))
def names0 : List Str := ["STATES", "RULES", "GraftError", "NoPattern", "NoBook", "TooMany", "Grower", "mark_of", "start_of", "Pattern", "One", "Chain", "Choice", "Times", "Mixed", "tolds", "all_spoken", "penned", "each_once", "is_empty", "one", "chain", "choice", "times", "mixed", "pattern_of", "all_left", "any_bare", "key_of", "BookGrower"]
def names1 : List Str := ["machine_of", "state_of", "forms_of", "mark_below", "marked", "book_of", "_law_cell_at", "_law_mix", "_law_tape", "_law_next", "_law_names", "_law_joined", "_law_so_many", "_law_part", "_law_tags", "_law_rules", "_law_merged", "_law_made_row", "_law_changed", "_law_near", "_law_times_fit", "_law_mixed_fit", "_law_fits", "_law_sets", "_law_list", "_law_order", "_law_place_told"]
def names : List Str := names0 ++ names1
abbrev R : PySem.W.OpenRow := PySem.W.OpenLaw.row PySem.Challenge.rw_graftform_k37_whole_the_machine_s_word
/-- the part of the heap that is looked at: what the module's names reach, and the statics -/
def frC (g : Addr → Option Obj) : PySem.W.Frag := He.frT g (PySem.cStatics :: He.asD g 4)
abbrev AlC : Type := He.AlD × Bool
def obsC (g : Addr → Option Obj) : AlC := (He.obsD fa fn (frC g), ex (frC g))
def hk : PySem.W.Hook where
  α := AlC
  obs := fun s => obsC s.heap.get?
  val := fun _ => (He.valD fn, true)
  says := fun _ h => ∃ K : PySem.W.Frag, K.In h ∧ He.SaysD fa fn K ∧ ex K = true
  of := fun _ _ e => ⟨_, He.frT_in, congrArg (fun z : AlC => z.1) e, congrArg (fun z : AlC => z.2) e⟩
  keeps := fun _ _ _ ⟨K, hK, c⟩ k => ⟨K, PySem.W.Frag.In.keeps hK k, c⟩
def ob (s : PySem.W.SharedT) : AlC := obsC (HandSHeadRun.getT s)
theorem ob_eq (s : PySem.W.SharedT) : ob s = hk.obs s.abs := by
  have e : HandSHeadRun.getT s = s.abs.heap.get? := funext (HandSHeadRun.getT_eq s)
  unfold ob
  rw [e] <;> rfl
end KG
end
section
set_option Elab.async false
set_option linter.all false
set_option maxRecDepth 100000
set_option maxHeartbeats 0
namespace KG
open PySem PySem.Spec PyProof.Rows L2
theorem run (w : World) : HandSHeadRun.RunEq R (PySem.W.view R.prog [64]) hk ob 6000 names w := by
  intro os
  kernel_rfl
end KG
end
section
set_option Elab.async false
set_option linter.all false
set_option maxRecDepth 100000
set_option maxHeartbeats 0
namespace KG
open PySem PySem.W PySem.Calls PyProof.Rows
/-- all but the law's walk -/
theorem holds_of (hc : WalkO (view (OpenLaw.row PySem.Challenge.rw_graftform_k37_whole_the_machine_s_word).prog [64]) names (XL (view (OpenLaw.row PySem.Challenge.rw_graftform_k37_whole_the_machine_s_word).prog [64]) []) hk.says (OpenLaw.row PySem.Challenge.rw_graftform_k37_whole_the_machine_s_word).toRowW (HandSHeadRun.topDef (OpenLaw.row PySem.Challenge.rw_graftform_k37_whole_the_machine_s_word).prog 64) [] fun f vs => PySem.call f vs) : PySem.Challenge.rw_graftform_k37_whole_the_machine_s_word.Holds := by
  w_on; o_law
  refine HandSHeadRun.head_any (r := OpenLaw.row PySem.Challenge.rw_graftform_k37_whole_the_machine_s_word) (q := view (OpenLaw.row PySem.Challenge.rw_graftform_k37_whole_the_machine_s_word).prog [64]) (H := hk) (ob := ob) (M := 6000) (loose := names) (d := HandSHeadRun.topDef (OpenLaw.row PySem.Challenge.rw_graftform_k37_whole_the_machine_s_word).prog 64) (kwd := []) ob_eq
    (by kernel_rfl) (fun s => by kernel_rfl) run (by kernel_rfl) (by kernel_rfl) (by kernel_rfl) (by rfl) (by first | assumption | decide +kernel) (by decide +kernel) ⟨rfl, rfl, rfl, rfl, rfl, by decide +kernel⟩ ?hw hc
  case hw => w_witness2
end KG
end
section
set_option Elab.async false
set_option linter.all false
/-! ## Patterns as plain data -/
namespace KM
open PySem
inductive Pat where
  | one (f : Str)
  | chain (ps : List Pat)
  | choice (ps : List Pat)
  | times (p : Pat) (lo : Nat) (hi : Option Nat)
  | mixed (ps : List Pat)
  deriving Inhabited

theorem Pat.ind {P : Pat → Prop} (h1 : ∀ f, P (.one f)) (h2 : ∀ ps, (∀ p ∈ ps, P p) → P (.chain ps)) (h3 : ∀ ps, (∀ p ∈ ps, P p) → P (.choice ps))
    (h4 : ∀ p lo hi, P p → P (.times p lo hi)) (h5 : ∀ ps, (∀ p ∈ ps, P p) → P (.mixed ps)) : ∀ p, P p
  | .one f => h1 f
  | .chain ps => h2 ps fun p _ => Pat.ind h1 h2 h3 h4 h5 p
  | .choice ps => h3 ps fun p _ => Pat.ind h1 h2 h3 h4 h5 p
  | .times p lo hi => h4 p lo hi (Pat.ind h1 h2 h3 h4 h5 p)
  | .mixed ps => h5 ps fun p _ => Pat.ind h1 h2 h3 h4 h5 p

/-! ### the text of a pattern, by its codes -/
def numL (n : Nat) : List Nat := [48 + n]
def hiL : Option Nat → List Nat
  | none => [45, 49]
  | some h => numL h
mutual
def penL : Pat → List Nat
  | .one f => f.cps.toList
  | .chain ps => 67 :: 40 :: (pensL ps ++ [41])
  | .choice ps => 79 :: 40 :: (pensL ps ++ [41])
  | .times p lo hi => 84 :: (numL lo ++ 44 :: (hiL hi ++ 40 :: (penL p ++ [41])))
  | .mixed ps => 77 :: 40 :: (pensL ps ++ [41])
/-- joined by blanks -/
def pensL : List Pat → List Nat
  | [] => []
  | p :: ps => penL p ++ tailL ps
def tailL : List Pat → List Nat
  | [] => []
  | p :: ps => 32 :: (penL p ++ tailL ps)
end

def isLow (c : Nat) : Prop := 97 ≤ c ∧ c ≤ 122
/-- a name: one to eight small letters -/
def NameOk (f : Str) : Prop := 1 ≤ f.cps.toList.length ∧ f.cps.toList.length ≤ 8 ∧ ∀ c ∈ f.cps.toList, isLow c
def isChain : Pat → Bool
  | .chain _ => true
  | _ => false
def isChoice : Pat → Bool
  | .choice _ => true
  | _ => false
def isMixed : Pat → Bool
  | .mixed _ => true
  | _ => false
def isEmpty : Pat → Bool
  | .chain [] => true
  | _ => false
def CntOk (lo : Nat) (hi : Option Nat) : Prop := lo ≤ 9 ∧ ∀ h, hi = some h → h ≤ 9 ∧ lo ≤ h
/-- the form in which the makers leave patterns -/
def Cn : Pat → Prop
  | .one f => NameOk f
  | .chain ps => ps.length ≠ 1 ∧ ∀ p ∈ ps, Cn p ∧ isChain p = false
  | .choice ps => 2 ≤ ps.length ∧ ps.Nodup ∧ ∀ p ∈ ps, Cn p ∧ isChoice p = false
  | .times p lo hi => Cn p ∧ isEmpty p = false ∧ CntOk lo hi ∧ hi ≠ some 0 ∧ ¬ (lo = 1 ∧ hi = some 1)
  | .mixed ps => 2 ≤ ps.length ∧ ∀ p ∈ ps, Cn p ∧ isMixed p = false ∧ isEmpty p = false

/-! ### the text tells the pattern -/
def NoLow (u : List Nat) : Prop := ∀ c, u.head? = some c → ¬ isLow c
theorem low_split : ∀ {f g u v : List Nat}, (∀ c ∈ f, isLow c) → (∀ c ∈ g, isLow c) → NoLow u → NoLow v → f ++ u = g ++ v → f = g ∧ u = v
  | [], [], u, v, _, _, _, _, e => ⟨rfl, e⟩
  | [], c :: g, u, v, _, hg, hu, _, e => by
    exact absurd (hg c List.mem_cons_self) (hu c (by rw [show u = c :: (g ++ v) from e]; rfl))
  | c :: f, [], u, v, hf, _, _, hv, e => by
    exact absurd (hf c List.mem_cons_self) (hv c (by rw [← show c :: (f ++ u) = v from e]; rfl))
  | c :: f, d :: g, u, v, hf, hg, hu, hv, e => by
    have e2 : c :: (f ++ u) = d :: (g ++ v) := e
    injection e2 with e3 e4
    obtain ⟨h1, h2⟩ := low_split (fun c hc => hf c (List.mem_cons_of_mem _ hc)) (fun c hc => hg c (List.mem_cons_of_mem _ hc)) hu hv e4
    exact ⟨by rw [e3, h1], h2⟩
theorem numL_inj {a b : Nat} {u v : List Nat} (e : numL a ++ u = numL b ++ v) : a = b ∧ u = v := by
  have e2 : (48 + a) :: u = (48 + b) :: v := e
  injection e2 with e3 e4
  exact ⟨by omega, e4⟩
theorem hiL_inj {a b : Option Nat} {u v : List Nat} (e : hiL a ++ u = hiL b ++ v) : a = b ∧ u = v := by
  cases a with
  | none =>
    cases b with
    | none =>
      have e2 : 45 :: 49 :: u = 45 :: 49 :: v := e
      injection e2 with _ e3
      injection e3 with _ e4
      exact ⟨rfl, e4⟩
    | some b =>
      have e2 : 45 :: 49 :: u = (48 + b) :: v := e
      injection e2 with e3 _
      omega
  | some a =>
    cases b with
    | none =>
      have e2 : (48 + a) :: u = 45 :: 49 :: v := e
      injection e2 with e3 _
      omega
    | some b =>
      obtain ⟨h1, h2⟩ := numL_inj (show numL a ++ u = numL b ++ v from e)
      exact ⟨by rw [h1], h2⟩
/-- the first sign of a pattern's text: a small letter, or one of C O T M by its kind -/
def headL : Pat → Nat → Prop
  | .one _, c => isLow c
  | .chain _, c => c = 67
  | .choice _, c => c = 79
  | .times _ _ _, c => c = 84
  | .mixed _, c => c = 77
theorem penL_head : ∀ {p : Pat}, Cn p → ∃ c r, penL p = c :: r ∧ headL p c
  | .one f, h => by
    obtain ⟨h1, _, h3⟩ := (show NameOk f by simpa [Cn] using h)
    show ∃ c r, f.cps.toList = c :: r ∧ isLow c
    cases e : f.cps.toList with
    | nil =>
      rw [e] at h1
      exact absurd h1 (by simp)
    | cons c r =>
      refine ⟨c, r, rfl, h3 c ?_⟩
      rw [e]
      exact List.mem_cons_self
  | .chain ps, h => ⟨_, _, rfl, rfl⟩
  | .choice ps, h => ⟨_, _, rfl, rfl⟩
  | .times p lo hi, h => ⟨_, _, rfl, rfl⟩
  | .mixed ps, h => ⟨_, _, rfl, rfl⟩
theorem headL_ne {p : Pat} {c : Nat} (h : headL p c) : c ≠ 41 ∧ c ≠ 32 := by
  cases p <;> simp [headL, isLow] at h <;> omega
/-- what may stand behind a pattern's text -/
def Sep (u : List Nat) : Prop := NoLow u
theorem sep_cons {c : Nat} {u : List Nat} (h : ¬ isLow c) : Sep (c :: u) := fun d e => by
  have : c = d := by simpa using e
  rwa [← this]
theorem tail_sep (ps : List Pat) (u : List Nat) : Sep (tailL ps ++ 41 :: u) := by
  cases ps with
  | nil => exact sep_cons (by simp [isLow])
  | cons p ps => exact sep_cons (by simp [isLow])
def Tells (p : Pat) : Prop := ∀ q u v, Cn p → Cn q → Sep u → Sep v → penL p ++ u = penL q ++ v → p = q ∧ u = v
theorem tail_tells : ∀ {ps : List Pat}, (∀ p ∈ ps, Tells p) → ∀ qs u v, (∀ p ∈ ps, Cn p) → (∀ p ∈ qs, Cn p) → tailL ps ++ 41 :: u = tailL qs ++ 41 :: v → ps = qs ∧ u = v
  | [], _, [], u, v, _, _, e => ⟨rfl, by injection (show 41 :: u = 41 :: v from e)⟩
  | [], _, q :: qs, u, v, _, _, e => by
    have e2 : 41 :: u = 32 :: ((penL q ++ tailL qs) ++ 41 :: v) := e
    injection e2 with e3
    omega
  | p :: ps, _, [], u, v, _, _, e => by
    have e2 : 32 :: ((penL p ++ tailL ps) ++ 41 :: u) = 41 :: v := e
    injection e2 with e3
    omega
  | p :: ps, h, q :: qs, u, v, hp, hq, e => by
    have e2 : 32 :: ((penL p ++ tailL ps) ++ 41 :: u) = 32 :: ((penL q ++ tailL qs) ++ 41 :: v) := e
    injection e2 with _ e3
    rw [List.append_assoc, List.append_assoc] at e3
    obtain ⟨h1, h2⟩ := h p List.mem_cons_self q _ _ (hp p List.mem_cons_self) (hq q List.mem_cons_self) (tail_sep ps u) (tail_sep qs v) e3
    obtain ⟨h3, h4⟩ := tail_tells (fun r hr => h r (List.mem_cons_of_mem _ hr)) qs u v (fun r hr => hp r (List.mem_cons_of_mem _ hr)) (fun r hr => hq r (List.mem_cons_of_mem _ hr)) h2
    exact ⟨by rw [h1, h3], h4⟩
theorem pens_tells {ps : List Pat} (h : ∀ p ∈ ps, Tells p) (qs : List Pat) (u v : List Nat) (hp : ∀ p ∈ ps, Cn p) (hq : ∀ p ∈ qs, Cn p) (e : pensL ps ++ 41 :: u = pensL qs ++ 41 :: v) : ps = qs ∧ u = v := by
  cases ps with
  | nil =>
    cases qs with
    | nil => exact ⟨rfl, by injection (show 41 :: u = 41 :: v from e)⟩
    | cons q qs =>
      obtain ⟨c, r, e1, e2⟩ := penL_head (hq q List.mem_cons_self)
      have e3 : 41 :: u = (penL q ++ tailL qs) ++ 41 :: v := e
      rw [e1] at e3
      injection e3 with e4
      exact absurd e4.symm (headL_ne e2).1
  | cons p ps =>
    cases qs with
    | nil =>
      obtain ⟨c, r, e1, e2⟩ := penL_head (hp p List.mem_cons_self)
      have e3 : (penL p ++ tailL ps) ++ 41 :: u = 41 :: v := e
      rw [e1] at e3
      injection e3 with e4
      exact absurd e4 (headL_ne e2).1
    | cons q qs =>
      have e3 : (penL p ++ tailL ps) ++ 41 :: u = (penL q ++ tailL qs) ++ 41 :: v := e
      rw [List.append_assoc, List.append_assoc] at e3
      obtain ⟨h1, h2⟩ := h p List.mem_cons_self q _ _ (hp p List.mem_cons_self) (hq q List.mem_cons_self) (tail_sep ps u) (tail_sep qs v) e3
      obtain ⟨h3, h4⟩ := tail_tells (fun r hr => h r (List.mem_cons_of_mem _ hr)) qs u v (fun r hr => hp r (List.mem_cons_of_mem _ hr)) (fun r hr => hq r (List.mem_cons_of_mem _ hr)) h2
      exact ⟨by rw [h1, h3], h4⟩
/-- unlike first signs -/
theorem head_apart {p q : Pat} {u v : List Nat} (hp : Cn p) (hq : Cn q) (e : penL p ++ u = penL q ++ v) : ∃ c, headL p c ∧ headL q c := by
  obtain ⟨c, r, e1, h1⟩ := penL_head hp
  obtain ⟨d, s, e2, h2⟩ := penL_head hq
  rw [e1, e2] at e
  injection e with e3 _
  exact ⟨c, h1, by rw [e3]; exact h2⟩
theorem cn_chain {ps : List Pat} (h : Cn (.chain ps)) : ∀ p ∈ ps, Cn p := fun p hp => by
  rw [Cn] at h
  exact (h.2 p hp).1
theorem cn_choice {ps : List Pat} (h : Cn (.choice ps)) : ∀ p ∈ ps, Cn p := fun p hp => by
  rw [Cn] at h
  exact (h.2.2 p hp).1
theorem cn_mixed {ps : List Pat} (h : Cn (.mixed ps)) : ∀ p ∈ ps, Cn p := fun p hp => by
  rw [Cn] at h
  exact (h.2 p hp).1
theorem cn_times {p : Pat} {lo : Nat} {hi : Option Nat} (h : Cn (.times p lo hi)) : Cn p := by
  rw [Cn] at h
  exact h.1
theorem tells : ∀ p, Tells p := by
  refine Pat.ind ?_ ?_ ?_ ?_ ?_
  · intro f q u v hp hq hu hv e
    cases q with
    | one g =>
      rw [Cn] at hp hq
      obtain ⟨h1, h2⟩ := low_split hp.2.2 hq.2.2 hu hv e
      refine ⟨?_, h2⟩
      cases f with
      | mk a =>
        cases g with
        | mk b =>
          have : a = b := Array.toList_inj.mp h1
          rw [this]
    | _ =>
      obtain ⟨c, h1, h2⟩ := head_apart hp hq e
      simp [headL, isLow] at h1 h2
      omega
  · intro ps ih q u v hp hq hu hv e
    cases q with
    | chain qs =>
      have e2 : 67 :: 40 :: ((pensL ps ++ [41]) ++ u) = 67 :: 40 :: ((pensL qs ++ [41]) ++ v) := e
      injection e2 with _ e3
      injection e3 with _ e4
      rw [List.append_assoc, List.append_assoc] at e4
      obtain ⟨h1, h2⟩ := pens_tells ih qs u v (cn_chain hp) (cn_chain hq) e4
      exact ⟨by rw [h1], h2⟩
    | _ =>
      obtain ⟨c, h1, h2⟩ := head_apart hp hq e
      simp [headL, isLow] at h1 h2
      omega
  · intro ps ih q u v hp hq hu hv e
    cases q with
    | choice qs =>
      have e2 : 79 :: 40 :: ((pensL ps ++ [41]) ++ u) = 79 :: 40 :: ((pensL qs ++ [41]) ++ v) := e
      injection e2 with _ e3
      injection e3 with _ e4
      rw [List.append_assoc, List.append_assoc] at e4
      obtain ⟨h1, h2⟩ := pens_tells ih qs u v (cn_choice hp) (cn_choice hq) e4
      exact ⟨by rw [h1], h2⟩
    | _ =>
      obtain ⟨c, h1, h2⟩ := head_apart hp hq e
      simp [headL, isLow] at h1 h2
      omega
  · intro p lo hi ih q u v hp hq hu hv e
    cases q with
    | times q lo' hi' =>
      have e2 : 84 :: ((numL lo ++ 44 :: (hiL hi ++ 40 :: (penL p ++ [41]))) ++ u) = 84 :: ((numL lo' ++ 44 :: (hiL hi' ++ 40 :: (penL q ++ [41]))) ++ v) := e
      injection e2 with _ e3
      rw [List.append_assoc, List.append_assoc] at e3
      obtain ⟨h1, e4⟩ := numL_inj e3
      have e5 : 44 :: ((hiL hi ++ 40 :: (penL p ++ [41])) ++ u) = 44 :: ((hiL hi' ++ 40 :: (penL q ++ [41])) ++ v) := e4
      injection e5 with _ e6
      rw [List.append_assoc, List.append_assoc] at e6
      obtain ⟨h2, e7⟩ := hiL_inj e6
      have e8 : 40 :: ((penL p ++ [41]) ++ u) = 40 :: ((penL q ++ [41]) ++ v) := e7
      injection e8 with _ e9
      rw [List.append_assoc, List.append_assoc] at e9
      obtain ⟨h3, h4⟩ := ih q _ _ (cn_times hp) (cn_times hq) (sep_cons (by simp [isLow])) (sep_cons (by simp [isLow])) e9
      have e10 : 41 :: u = 41 :: v := h4
      injection e10 with _ e11
      exact ⟨by rw [h1, h2, h3], e11⟩
    | _ =>
      obtain ⟨c, h1, h2⟩ := head_apart hp hq e
      simp [headL, isLow] at h1 h2
      omega
  · intro ps ih q u v hp hq hu hv e
    cases q with
    | mixed qs =>
      have e2 : 77 :: 40 :: ((pensL ps ++ [41]) ++ u) = 77 :: 40 :: ((pensL qs ++ [41]) ++ v) := e
      injection e2 with _ e3
      injection e3 with _ e4
      rw [List.append_assoc, List.append_assoc] at e4
      obtain ⟨h1, h2⟩ := pens_tells ih qs u v (cn_mixed hp) (cn_mixed hq) e4
      exact ⟨by rw [h1], h2⟩
    | _ =>
      obtain ⟨c, h1, h2⟩ := head_apart hp hq e
      simp [headL, isLow] at h1 h2
      omega
theorem penL_inj {p q : Pat} (hp : Cn p) (hq : Cn q) (e : penL p = penL q) : p = q :=
  (tells p q [] [] hp hq (fun c h => by simp at h) (fun c h => by simp at h) (by rw [e])).1
end KM
end
section
set_option Elab.async false
set_option linter.all false
/-! ## The makers, what is left, what fits -/
namespace KM
open PySem
open Classical
/-! ### lists, each once -/
noncomputable def once (ps : List Pat) : List Pat := ps.foldl (fun kept p => if p ∈ kept then kept else kept ++ [p]) []
theorem once_nil : once [] = [] := rfl
theorem once_snoc (ps : List Pat) (p : Pat) : once (ps ++ [p]) = if p ∈ once ps then once ps else once ps ++ [p] := by
  unfold once
  rw [List.foldl_append]
  rfl
theorem snoc_ind {α : Type} {P : List α → Prop} (h0 : P []) (h1 : ∀ l a, P l → P (l ++ [a])) : ∀ l, P l := by
  intro l
  have h : ∀ l : List α, P l.reverse := by
    intro l
    induction l with
    | nil => exact h0
    | cons a l ih =>
      rw [List.reverse_cons]
      exact h1 _ _ ih
  have := h l.reverse
  rwa [List.reverse_reverse] at this
theorem mem_once {q : Pat} : ∀ ps, q ∈ once ps ↔ q ∈ ps := by
  refine snoc_ind (by simp [once_nil]) fun l a ih => ?_
  rw [once_snoc]
  by_cases h : a ∈ once l
  · rw [if_pos h, List.mem_append, ih]
    constructor
    · exact Or.inl
    · rintro (h2 | h2)
      · exact h2
      · have := List.mem_singleton.mp h2
        subst this
        exact ih.mp h
  · rw [if_neg h, List.mem_append, List.mem_append, ih]
theorem once_in {ps : List Pat} {p : Pat} (h : p ∈ ps) : once (ps ++ [p]) = once ps := by rw [once_snoc, if_pos ((mem_once _).mpr h)]
theorem once_out {ps : List Pat} {p : Pat} (h : p ∉ ps) : once (ps ++ [p]) = once ps ++ [p] := by rw [once_snoc, if_neg fun z => h ((mem_once _).mp z)]
theorem nodup_once : ∀ ps, (once ps).Nodup := by
  refine snoc_ind (by simp [once_nil]) fun l a ih => ?_
  rw [once_snoc]
  by_cases h : a ∈ once l
  · rw [if_pos h]; exact ih
  · rw [if_neg h, List.nodup_append]
    exact ⟨ih, by simp, fun x hx y hy e => h (by rw [← List.mem_singleton.mp hy, ← e]; exact hx)⟩
theorem once_len : ∀ ps, (once ps).length ≤ ps.length := by
  refine snoc_ind (by simp [once_nil]) fun l a ih => ?_
  rw [once_snoc, List.length_append, List.length_singleton]
  split
  · omega
  · rw [List.length_append, List.length_singleton]; omega
theorem once_id : ∀ ps, ps.Nodup → once ps = ps := by
  refine snoc_ind (fun _ => rfl) fun l a ih h => ?_
  rw [List.nodup_append] at h
  rw [once_out fun z => h.2.2 a z a (List.mem_singleton.mpr rfl) rfl, ih h.1]

/-! ### the makers -/
def mk : List Pat → Pat
  | [x] => x
  | xs => .chain xs
def parts : Pat → List Pat
  | .chain ps => ps
  | p => [p]
def fl (ps : List Pat) : List Pat := ps.flatMap parts
def chain' (ps : List Pat) : Pat := mk (fl ps)
def mkm : List Pat → Pat
  | [] => .chain []
  | [x] => x
  | xs => .mixed xs
def mparts : Pat → List Pat
  | .mixed ps => ps
  | .chain [] => []
  | p => [p]
def flm (ps : List Pat) : List Pat := ps.flatMap mparts
def mixed' (ps : List Pat) : Pat := mkm (flm ps)
def mko : List Pat → Pat
  | [x] => x
  | xs => .choice xs
def oparts : Pat → List Pat
  | .choice ps => ps
  | p => [p]
def flo (ps : List Pat) : List Pat := ps.flatMap oparts
noncomputable def choice' (ps : List Pat) : Pat := mko (once (flo ps))
noncomputable def times' (p : Pat) (lo : Nat) (hi : Option Nat) : Pat := if hi = some 0 ∨ isEmpty p = true then .chain [] else if lo = 1 ∧ hi = some 1 then p else .times p lo hi

/-! ### bare, left -/
mutual
def bare : Pat → Bool
  | .one _ => false
  | .chain ps => bareAll ps
  | .choice ps => bareAny ps
  | .times p lo _ => lo == 0 || bare p
  | .mixed ps => bareAll ps
def bareAll : List Pat → Bool
  | [] => true
  | p :: ps => bare p && bareAll ps
def bareAny : List Pat → Bool
  | [] => false
  | p :: ps => bare p || bareAny ps
end
def dec : Option Nat → Option Nat
  | none => none
  | some h => some (h - 1)
mutual
noncomputable def left (c : List Str) : Pat → List Pat
  | .one f => if f ∈ c then [.chain []] else []
  | .chain ps => once (leftChain c ps)
  | .choice ps => once (leftAll c ps)
  | .times p lo hi => once ((left c p).map fun r => chain' [r, times' p (lo - 1) (dec hi)])
  | .mixed ps => once (leftMix c [] ps)
noncomputable def leftChain (c : List Str) : List Pat → List Pat
  | [] => []
  | p :: ps => (left c p).map (fun r => chain' (r :: ps)) ++ (if bare p then leftChain c ps else [])
noncomputable def leftAll (c : List Str) : List Pat → List Pat
  | [] => []
  | p :: ps => left c p ++ leftAll c ps
noncomputable def leftMix (c : List Str) (ahead : List Pat) : List Pat → List Pat
  | [] => []
  | p :: ps => (left c p).map (fun r => mixed' (ahead ++ r :: ps)) ++ leftMix c (ahead ++ [p]) ps
end

/-! ### what fits: the plain meaning -/
abbrev Row : Type := List (List Str)
def Pow (X : Row → Prop) : Nat → Row → Prop
  | 0, r => r = []
  | n + 1, r => ∃ a b, r = a ++ b ∧ X a ∧ Pow X n b
inductive Shuf : Row → Row → Row → Prop where
  | nil : Shuf [] [] []
  | goL {a b r : Row} (x : List Str) : Shuf a b r → Shuf (x :: a) b (x :: r)
  | goR {a b r : Row} (x : List Str) : Shuf a b r → Shuf a (x :: b) (x :: r)
mutual
def L : Pat → Row → Prop
  | .one f, r => ∃ c, r = [c] ∧ f ∈ c
  | .chain ps, r => Lc ps r
  | .choice ps, r => Lo ps r
  | .times p lo hi, r => ∃ n, lo ≤ n ∧ (∀ h, hi = some h → n ≤ h) ∧ Pow (L p) n r
  | .mixed ps, r => Lm ps r
def Lc : List Pat → Row → Prop
  | [], r => r = []
  | p :: ps, r => ∃ a b, r = a ++ b ∧ L p a ∧ Lc ps b
def Lo : List Pat → Row → Prop
  | [], _ => False
  | p :: ps, r => L p r ∨ Lo ps r
def Lm : List Pat → Row → Prop
  | [], r => r = []
  | p :: ps, r => ∃ a b, Shuf a b r ∧ L p a ∧ Lm ps b
end
theorem L_one {f : Str} {r : Row} : L (.one f) r ↔ ∃ c, r = [c] ∧ f ∈ c := by rw [L]
theorem L_chain {ps : List Pat} {r : Row} : L (.chain ps) r ↔ Lc ps r := by rw [L]
theorem L_choice {ps : List Pat} {r : Row} : L (.choice ps) r ↔ Lo ps r := by rw [L]
theorem L_mixed {ps : List Pat} {r : Row} : L (.mixed ps) r ↔ Lm ps r := by rw [L]
theorem L_times {p : Pat} {lo : Nat} {hi : Option Nat} {r : Row} : L (.times p lo hi) r ↔ ∃ n, lo ≤ n ∧ (∀ h, hi = some h → n ≤ h) ∧ Pow (L p) n r := by rw [L]
theorem Lc_nil {r : Row} : Lc [] r ↔ r = [] := by rw [Lc]
theorem Lc_cons {p : Pat} {ps : List Pat} {r : Row} : Lc (p :: ps) r ↔ ∃ a b, r = a ++ b ∧ L p a ∧ Lc ps b := by rw [Lc]
theorem Lo_nil {r : Row} : Lo [] r ↔ False := by rw [Lo]
theorem Lo_cons {p : Pat} {ps : List Pat} {r : Row} : Lo (p :: ps) r ↔ L p r ∨ Lo ps r := by rw [Lo]
theorem Lm_nil {r : Row} : Lm [] r ↔ r = [] := by rw [Lm]
theorem Lm_cons {p : Pat} {ps : List Pat} {r : Row} : Lm (p :: ps) r ↔ ∃ a b, Shuf a b r ∧ L p a ∧ Lm ps b := by rw [Lm]
theorem Lo_iff {ps : List Pat} {r : Row} : Lo ps r ↔ ∃ p ∈ ps, L p r := by
  induction ps with
  | nil => rw [Lo_nil]; simp
  | cons p ps ih => rw [Lo_cons, ih]; simp

/-! ### shuffles -/
theorem Shuf.nil_left : ∀ {b r : Row}, Shuf [] b r → b = r
  | _, _, .nil => rfl
  | _, _, .goR x h => by rw [h.nil_left]
theorem Shuf.nil_right : ∀ {a r : Row}, Shuf a [] r → a = r
  | _, _, .nil => rfl
  | _, _, .goL x h => by rw [h.nil_right]
theorem Shuf.all_left : ∀ a : Row, Shuf a [] a
  | [] => .nil
  | x :: a => .goL x (Shuf.all_left a)
theorem Shuf.all_right : ∀ a : Row, Shuf [] a a
  | [] => .nil
  | x :: a => .goR x (Shuf.all_right a)
theorem Shuf.of_nil : ∀ {a b : Row}, Shuf a b [] → a = [] ∧ b = []
  | _, _, .nil => ⟨rfl, rfl⟩
theorem Shuf.cons_inv {a b r : Row} {x : List Str} (h : Shuf a b (x :: r)) : (∃ a', a = x :: a' ∧ Shuf a' b r) ∨ ∃ b', b = x :: b' ∧ Shuf a b' r := by
  cases h with
  | goL _ h => exact .inl ⟨_, rfl, h⟩
  | goR _ h => exact .inr ⟨_, rfl, h⟩
theorem Shuf.swap : ∀ {a b r : Row}, Shuf a b r → Shuf b a r
  | _, _, _, .nil => .nil
  | _, _, _, .goL x h => .goR x h.swap
  | _, _, _, .goR x h => .goL x h.swap
/-- (a with b) with c is a with (b with c) -/
theorem Shuf.assoc : ∀ {ab r : Row} {a b c : Row}, Shuf a b ab → Shuf ab c r → ∃ bc, Shuf b c bc ∧ Shuf a bc r
  | ab, [], a, b, c, h1, h2 => by
    obtain ⟨e1, e2⟩ := h2.of_nil
    subst e1 e2
    obtain ⟨e3, e4⟩ := h1.of_nil
    subst e3 e4
    exact ⟨[], .nil, .nil⟩
  | ab, x :: r, a, b, c, h1, h2 => by
    rcases h2.cons_inv with ⟨ab', e, h3⟩ | ⟨c', e, h3⟩
    · subst e
      rcases h1.cons_inv with ⟨a', e, h4⟩ | ⟨b', e, h4⟩
      · subst e
        obtain ⟨bc, g1, g2⟩ := Shuf.assoc h4 h3
        exact ⟨bc, g1, .goL x g2⟩
      · subst e
        obtain ⟨bc, g1, g2⟩ := Shuf.assoc h4 h3
        exact ⟨x :: bc, .goL x g1, .goR x g2⟩
    · subst e
      obtain ⟨bc, g1, g2⟩ := Shuf.assoc h1 h3
      exact ⟨x :: bc, .goR x g1, .goR x g2⟩
theorem Shuf.assoc' {bc r a b c : Row} (h1 : Shuf b c bc) (h2 : Shuf a bc r) : ∃ ab, Shuf a b ab ∧ Shuf ab c r := by
  obtain ⟨ba, g1, g2⟩ := Shuf.assoc h1.swap h2.swap
  exact ⟨ba, g1.swap, g2.swap⟩

/-! ### what the makers' patterns fit -/
theorem Lc_append {ps qs : List Pat} {r : Row} : Lc (ps ++ qs) r ↔ ∃ a b, r = a ++ b ∧ Lc ps a ∧ Lc qs b := by
  induction ps generalizing r with
  | nil =>
    constructor
    · intro h
      exact ⟨[], r, rfl, Lc_nil.mpr rfl, h⟩
    · rintro ⟨a, b, e, h1, h2⟩
      have := Lc_nil.mp h1
      subst this
      rw [e]
      exact h2
  | cons p ps ih =>
    rw [List.cons_append, Lc_cons]
    constructor
    · rintro ⟨a, b, e, h1, h2⟩
      obtain ⟨b1, b2, e2, h3, h4⟩ := ih.mp h2
      exact ⟨a ++ b1, b2, by rw [e, e2, List.append_assoc], Lc_cons.mpr ⟨a, b1, rfl, h1, h3⟩, h4⟩
    · rintro ⟨a, b, e, h1, h2⟩
      obtain ⟨a1, a2, e2, h3, h4⟩ := Lc_cons.mp h1
      exact ⟨a1, a2 ++ b, by rw [e, e2, List.append_assoc], h3, ih.mpr ⟨a2, b, rfl, h4, h2⟩⟩
theorem Lc_one {p : Pat} {r : Row} : Lc [p] r ↔ L p r := by
  rw [Lc_cons]
  constructor
  · rintro ⟨a, b, e, h1, h2⟩
    have := Lc_nil.mp h2
    subst this
    rw [e, List.append_nil]
    exact h1
  · intro h
    exact ⟨r, [], by rw [List.append_nil], h, Lc_nil.mpr rfl⟩
theorem Lc_parts {p : Pat} {r : Row} : Lc (parts p) r ↔ L p r := by
  cases p with
  | chain ps => exact L_chain.symm
  | _ => exact Lc_one
theorem Lc_fl {ps : List Pat} {r : Row} : Lc (fl ps) r ↔ Lc ps r := by
  induction ps generalizing r with
  | nil => exact Iff.rfl
  | cons p ps ih =>
    rw [show fl (p :: ps) = parts p ++ fl ps from rfl, Lc_append, Lc_cons]
    constructor
    · rintro ⟨a, b, e, h1, h2⟩
      exact ⟨a, b, e, Lc_parts.mp h1, ih.mp h2⟩
    · rintro ⟨a, b, e, h1, h2⟩
      exact ⟨a, b, e, Lc_parts.mpr h1, ih.mpr h2⟩
theorem L_mk {ps : List Pat} {r : Row} : L (mk ps) r ↔ Lc ps r := by
  match ps with
  | [] => exact L_chain
  | [p] => exact Lc_one.symm
  | p :: q :: ps => exact L_chain
theorem L_chain' {ps : List Pat} {r : Row} : L (chain' ps) r ↔ Lc ps r := L_mk.trans Lc_fl
theorem Lm_append {ps qs : List Pat} {r : Row} : Lm (ps ++ qs) r ↔ ∃ a b, Shuf a b r ∧ Lm ps a ∧ Lm qs b := by
  induction ps generalizing r with
  | nil =>
    constructor
    · intro h
      exact ⟨[], r, Shuf.all_right r, Lm_nil.mpr rfl, h⟩
    · rintro ⟨a, b, e, h1, h2⟩
      have := Lm_nil.mp h1
      subst this
      rw [← e.nil_left]
      exact h2
  | cons p ps ih =>
    rw [List.cons_append, Lm_cons]
    constructor
    · rintro ⟨a, b, e, h1, h2⟩
      obtain ⟨b1, b2, e2, h3, h4⟩ := ih.mp h2
      obtain ⟨ab, g1, g2⟩ := Shuf.assoc' e2 e
      exact ⟨ab, b2, g2, Lm_cons.mpr ⟨a, b1, g1, h1, h3⟩, h4⟩
    · rintro ⟨a, b, e, h1, h2⟩
      obtain ⟨a1, a2, e2, h3, h4⟩ := Lm_cons.mp h1
      obtain ⟨bc, g1, g2⟩ := Shuf.assoc e2 e
      exact ⟨a1, bc, g2, h3, ih.mpr ⟨a2, b, g1, h4, h2⟩⟩
theorem Lm_one {p : Pat} {r : Row} : Lm [p] r ↔ L p r := by
  rw [Lm_cons]
  constructor
  · rintro ⟨a, b, e, h1, h2⟩
    have := Lm_nil.mp h2
    subst this
    rw [← e.nil_right]
    exact h1
  · intro h
    exact ⟨r, [], Shuf.all_left r, h, Lm_nil.mpr rfl⟩
theorem Lm_mparts {p : Pat} {r : Row} : Lm (mparts p) r ↔ L p r := by
  cases p with
  | mixed ps => exact L_mixed.symm
  | chain ps =>
    cases ps with
    | nil => exact (Lm_nil.trans Lc_nil.symm).trans L_chain.symm
    | cons q qs => exact Lm_one
  | _ => exact Lm_one
theorem Lm_flm {ps : List Pat} {r : Row} : Lm (flm ps) r ↔ Lm ps r := by
  induction ps generalizing r with
  | nil => exact Iff.rfl
  | cons p ps ih =>
    rw [show flm (p :: ps) = mparts p ++ flm ps from rfl, Lm_append, Lm_cons]
    constructor
    · rintro ⟨a, b, e, h1, h2⟩
      exact ⟨a, b, e, Lm_mparts.mp h1, ih.mp h2⟩
    · rintro ⟨a, b, e, h1, h2⟩
      exact ⟨a, b, e, Lm_mparts.mpr h1, ih.mpr h2⟩
theorem L_mkm {ps : List Pat} {r : Row} : L (mkm ps) r ↔ Lm ps r := by
  match ps with
  | [] => exact (L_chain.trans Lc_nil).trans Lm_nil.symm
  | [p] => exact Lm_one.symm
  | p :: q :: ps => exact L_mixed
theorem L_mixed' {ps : List Pat} {r : Row} : L (mixed' ps) r ↔ Lm ps r := L_mkm.trans Lm_flm
theorem isEmpty_eq {p : Pat} (h : isEmpty p = true) : p = .chain [] := by
  cases p with
  | chain ps =>
    cases ps with
    | nil => rfl
    | cons q qs => cases h
  | _ => cases h
theorem Pow_one {X : Row → Prop} {r : Row} : Pow X 1 r ↔ X r := by
  constructor
  · rintro ⟨a, b, e, h1, h2⟩
    have : b = [] := h2
    subst this
    rw [e, List.append_nil]
    exact h1
  · intro h
    exact ⟨r, [], by rw [List.append_nil], h, rfl⟩
theorem Pow_empty {X : Row → Prop} (hX : ∀ r, X r ↔ r = []) : ∀ n r, Pow X n r ↔ r = []
  | 0, r => Iff.rfl
  | n + 1, r => by
    constructor
    · rintro ⟨a, b, e, h1, h2⟩
      have e1 := (hX a).mp h1
      have e2 := (Pow_empty hX n b).mp h2
      rw [e, e1, e2]
      rfl
    · intro e
      exact ⟨[], [], by rw [e]; rfl, (hX []).mpr rfl, (Pow_empty hX n []).mpr rfl⟩
theorem L_times' {p : Pat} {lo : Nat} {hi : Option Nat} {r : Row} (hc : ∀ h, hi = some h → lo ≤ h) : L (times' p lo hi) r ↔ L (.times p lo hi) r := by
  unfold times'
  by_cases h1 : hi = some 0 ∨ isEmpty p = true
  · rw [if_pos h1, L_times, L_chain, Lc_nil]
    rcases h1 with h1 | h1
    · have := hc 0 h1
      constructor
      · intro e
        exact ⟨0, by omega, fun h e2 => by omega, e⟩
      · rintro ⟨n, h2, h3, h4⟩
        have := h3 0 h1
        obtain rfl : n = 0 := by omega
        exact h4
    · have e := isEmpty_eq h1
      subst e
      have hX : ∀ r, L (.chain []) r ↔ r = [] := fun r => L_chain.trans Lc_nil
      constructor
      · intro e
        exact ⟨lo, by omega, fun h e2 => hc h e2, (Pow_empty hX lo r).mpr e⟩
      · rintro ⟨n, _, _, h4⟩
        exact (Pow_empty hX n r).mp h4
  · rw [if_neg h1]
    by_cases h2 : lo = 1 ∧ hi = some 1
    · rw [if_pos h2, L_times]
      obtain ⟨rfl, rfl⟩ := h2
      constructor
      · intro h
        exact ⟨1, by omega, fun h e => by injection e; omega, Pow_one.mpr h⟩
      · rintro ⟨n, h3, h4, h5⟩
        have := h4 1 rfl
        obtain rfl : n = 1 := by omega
        exact Pow_one.mp h5
    · rw [if_neg h2]

/-! ### counts that the makers take -/
def Wf : Pat → Prop
  | .one _ => True
  | .chain ps => ∀ p ∈ ps, Wf p
  | .choice ps => ∀ p ∈ ps, Wf p
  | .times p lo hi => Wf p ∧ ∀ h, hi = some h → lo ≤ h ∧ 1 ≤ h
  | .mixed ps => ∀ p ∈ ps, Wf p
theorem cn_wf : ∀ p, Cn p → Wf p := by
  refine Pat.ind ?_ ?_ ?_ ?_ ?_
  · intro f _; rw [Wf]; trivial
  · intro ps ih h; rw [Wf]; exact fun p hp => ih p hp (cn_chain h p hp)
  · intro ps ih h; rw [Wf]; exact fun p hp => ih p hp (cn_choice h p hp)
  · intro p lo hi ih h
    rw [Wf]
    refine ⟨ih (cn_times h), fun k e => ?_⟩
    rw [Cn] at h
    obtain ⟨_, _, h3, h4, _⟩ := h
    refine ⟨(h3.2 k e).2, ?_⟩
    cases k with
    | zero => exact absurd e h4
    | succ k => omega
  · intro ps ih h; rw [Wf]; exact fun p hp => ih p hp (cn_mixed h p hp)

/-! ### bare is: fits the row without children -/
theorem append_nil_inv {a b : Row} (e : [] = a ++ b) : a = [] ∧ b = [] := by
  have := e.symm
  rwa [List.append_eq_nil_iff] at this
theorem Pow_nil_iff {X : Row → Prop} : ∀ n, 0 < n → (Pow X n [] → X [])
  | n + 1, _, h => by
    obtain ⟨a, b, e, h1, _⟩ := h
    obtain ⟨e1, _⟩ := append_nil_inv e
    rw [e1] at h1
    exact h1
theorem Pow_nil_of {X : Row → Prop} (h : X []) : ∀ n, Pow X n []
  | 0 => rfl
  | n + 1 => ⟨[], [], rfl, h, Pow_nil_of h n⟩
theorem bare_iff : ∀ p, Wf p → (bare p = true ↔ L p []) := by
  refine Pat.ind ?_ ?_ ?_ ?_ ?_
  · intro f _
    rw [L_one, bare]
    simp
  · intro ps ih hw
    rw [Wf] at hw
    rw [L_chain, bare]
    induction ps with
    | nil => rw [bareAll, Lc_nil]; simp
    | cons p ps ih2 =>
      rw [bareAll, Bool.and_eq_true, ih p List.mem_cons_self (hw p List.mem_cons_self), ih2 (fun q hq => ih q (List.mem_cons_of_mem _ hq)) (fun q hq => hw q (List.mem_cons_of_mem _ hq)), Lc_cons]
      constructor
      · rintro ⟨h1, h2⟩
        exact ⟨[], [], rfl, h1, h2⟩
      · rintro ⟨a, b, e, h1, h2⟩
        obtain ⟨e1, e2⟩ := append_nil_inv e
        subst e1 e2
        exact ⟨h1, h2⟩
  · intro ps ih hw
    rw [Wf] at hw
    rw [L_choice, bare]
    induction ps with
    | nil => rw [bareAny, Lo_nil]; simp
    | cons p ps ih2 =>
      rw [bareAny, Bool.or_eq_true, ih p List.mem_cons_self (hw p List.mem_cons_self), ih2 (fun q hq => ih q (List.mem_cons_of_mem _ hq)) (fun q hq => hw q (List.mem_cons_of_mem _ hq)), Lo_cons]
  · intro p lo hi ih hw
    rw [Wf] at hw
    rw [L_times, bare, Bool.or_eq_true, ih hw.1]
    constructor
    · rintro (h | h)
      · have : lo = 0 := by simpa using h
        subst this
        exact ⟨0, by omega, fun _ _ => by omega, rfl⟩
      · exact ⟨lo, by omega, fun k e => (hw.2 k e).1, Pow_nil_of h lo⟩
    · rintro ⟨n, h1, _, h3⟩
      by_cases h0 : lo = 0
      · left; simp [h0]
      · right
        exact Pow_nil_iff n (by omega) h3
  · intro ps ih hw
    rw [Wf] at hw
    rw [L_mixed, bare]
    induction ps with
    | nil => rw [bareAll, Lm_nil]; simp
    | cons p ps ih2 =>
      rw [bareAll, Bool.and_eq_true, ih p List.mem_cons_self (hw p List.mem_cons_self), ih2 (fun q hq => ih q (List.mem_cons_of_mem _ hq)) (fun q hq => hw q (List.mem_cons_of_mem _ hq)), Lm_cons]
      constructor
      · rintro ⟨h1, h2⟩
        exact ⟨[], [], .nil, h1, h2⟩
      · rintro ⟨a, b, e, h1, h2⟩
        obtain ⟨e1, e2⟩ := e.of_nil
        subst e1 e2
        exact ⟨h1, h2⟩

/-! ### left is: what may follow a child -/
theorem cons_split {a b r : Row} {x : List Str} (e : x :: r = a ++ b) : (a = [] ∧ b = x :: r) ∨ ∃ a', a = x :: a' ∧ r = a' ++ b := by
  cases a with
  | nil => exact .inl ⟨rfl, e.symm⟩
  | cons y a' =>
    have e2 : x :: r = y :: (a' ++ b) := e
    injection e2 with e3 e4
    exact .inr ⟨a', by rw [e3], e4⟩
/-- the first piece that isn't empty may stand first -/
theorem Pow_cons {X : Row → Prop} {x : List Str} : ∀ (n : Nat) {r : Row}, Pow X n (x :: r) → ∃ a b m, r = a ++ b ∧ X (x :: a) ∧ m + 1 ≤ n ∧ Pow X m b ∧ (m + 1 < n → X [])
  | 0, r, h => by cases (show x :: r = [] from h)
  | n + 1, r, h => by
    obtain ⟨a, b, e, h1, h2⟩ := h
    rcases cons_split e with ⟨e1, e2⟩ | ⟨a', e1, e2⟩
    · subst e1 e2
      obtain ⟨a, b, m, e, g1, g2, g3, g4⟩ := Pow_cons n h2
      exact ⟨a, b, m, e, g1, by omega, g3, fun _ => h1⟩
    · subst e1
      exact ⟨a', b, n, e2, h1, by omega, h2, fun q => by omega⟩
theorem Pow_pad {X : Row → Prop} (h : X []) {m : Nat} {r : Row} (hp : Pow X m r) : ∀ k, Pow X (m + k) r
  | 0 => hp
  | k + 1 => ⟨[], r, rfl, h, Pow_pad h hp k⟩
theorem leftAll_iff {c : List Str} {ps : List Pat} {q : Pat} : q ∈ leftAll c ps ↔ ∃ p ∈ ps, q ∈ left c p := by
  induction ps with
  | nil => rw [leftAll]; simp
  | cons p ps ih => rw [leftAll, List.mem_append, ih]; simp
theorem left_iff : ∀ p, Wf p → ∀ (c : List Str) (r : Row), (L p (c :: r) ↔ ∃ q ∈ left c p, L q r) := by
  refine Pat.ind ?_ ?_ ?_ ?_ ?_
  · intro f _ c r
    rw [L_one, left]
    by_cases h : f ∈ c
    · rw [if_pos h]
      constructor
      · rintro ⟨d, e, hd⟩
        injection e with e1 e2
        exact ⟨_, List.mem_singleton.mpr rfl, L_chain.mpr (Lc_nil.mpr e2)⟩
      · rintro ⟨q, hq, h2⟩
        have := List.mem_singleton.mp hq
        subst this
        have e := Lc_nil.mp (L_chain.mp h2)
        exact ⟨c, by rw [e], h⟩
    · rw [if_neg h]
      constructor
      · rintro ⟨d, e, hd⟩
        injection e with e1 e2
        rw [← e1] at hd
        exact absurd hd h
      · rintro ⟨q, hq, _⟩
        cases hq
  · intro ps ih hw c r
    rw [Wf] at hw
    rw [L_chain, left]
    simp only [mem_once]
    induction ps generalizing r with
    | nil =>
      rw [leftChain, Lc_nil]
      simp
    | cons p ps ih2 =>
      have hb := bare_iff p (hw p List.mem_cons_self)
      have i1 := fun r => ih p List.mem_cons_self (hw p List.mem_cons_self) c r
      have i2 := ih2 (fun q hq => ih q (List.mem_cons_of_mem _ hq)) (fun q hq => hw q (List.mem_cons_of_mem _ hq)) r
      rw [leftChain, Lc_cons]
      constructor
      · rintro ⟨a, b, e, h1, h2⟩
        rcases cons_split e with ⟨e1, e2⟩ | ⟨a', e1, e2⟩
        · subst e1 e2
          obtain ⟨q, hq, h3⟩ := i2.mp h2
          refine ⟨q, List.mem_append_right _ ?_, h3⟩
          rw [if_pos (hb.mpr h1)]
          exact hq
        · subst e1
          obtain ⟨q, hq, h3⟩ := (i1 a').mp h1
          exact ⟨_, List.mem_append_left _ (List.mem_map.mpr ⟨q, hq, rfl⟩), L_chain'.mpr (Lc_cons.mpr ⟨a', b, e2, h3, h2⟩)⟩
      · rintro ⟨q, hq, h3⟩
        rcases List.mem_append.mp hq with hq | hq
        · obtain ⟨q', hq', e⟩ := List.mem_map.mp hq
          subst e
          obtain ⟨a, b, e, h4, h5⟩ := Lc_cons.mp (L_chain'.mp h3)
          exact ⟨c :: a, b, by rw [e]; rfl, (i1 a).mpr ⟨q', hq', h4⟩, h5⟩
        · by_cases h0 : bare p = true
          · rw [if_pos h0] at hq
            exact ⟨[], c :: r, rfl, hb.mp h0, i2.mpr ⟨q, hq, h3⟩⟩
          · rw [if_neg h0] at hq
            cases hq
  · intro ps ih hw c r
    rw [Wf] at hw
    rw [L_choice, left]
    simp only [mem_once]
    rw [Lo_iff]
    constructor
    · rintro ⟨p, hp, h⟩
      obtain ⟨q, hq, h2⟩ := (ih p hp (hw p hp) c r).mp h
      exact ⟨q, leftAll_iff.mpr ⟨p, hp, hq⟩, h2⟩
    · rintro ⟨q, hq, h2⟩
      obtain ⟨p, hp, hq2⟩ := leftAll_iff.mp hq
      exact ⟨p, hp, (ih p hp (hw p hp) c r).mpr ⟨q, hq2, h2⟩⟩
  · intro p lo hi ih hw c r
    rw [Wf] at hw
    have hd : ∀ h, dec hi = some h → lo - 1 ≤ h := by
      intro h e
      cases hi with
      | none => cases e
      | some k =>
        have := (hw.2 k rfl).1
        have e2 : k - 1 = h := Option.some.inj e
        omega
    rw [L_times, left]
    simp only [mem_once]
    constructor
    · rintro ⟨n, h1, h2, h3⟩
      obtain ⟨a, b, m, e, g1, g2, g3, g4⟩ := Pow_cons n h3
      obtain ⟨q, hq, h4⟩ := (ih hw.1 c a).mp g1
      refine ⟨_, List.mem_map.mpr ⟨q, hq, rfl⟩, L_chain'.mpr (Lc_cons.mpr ⟨a, b, e, h4, Lc_one.mpr ((L_times' hd).mpr (L_times.mpr ⟨n - 1, by omega, ?_, ?_⟩))⟩)⟩
      · intro h e2
        cases hi with
        | none => cases e2
        | some k =>
          have := h2 k rfl
          have e3 : k - 1 = h := Option.some.inj e2
          omega
      · by_cases hm : m + 1 < n
        · have := Pow_pad (g4 hm) g3 (n - 1 - m)
          rwa [show m + (n - 1 - m) = n - 1 by omega] at this
        · rwa [show n - 1 = m by omega]
    · rintro ⟨q, hq, h4⟩
      obtain ⟨q', hq', e⟩ := List.mem_map.mp hq
      subst e
      obtain ⟨a, b, e, h5, h6⟩ := Lc_cons.mp (L_chain'.mp h4)
      obtain ⟨n, g1, g2, g3⟩ := L_times.mp ((L_times' hd).mp (Lc_one.mp h6))
      refine ⟨n + 1, by omega, fun h e2 => ?_, c :: a, b, by rw [e]; rfl, (ih hw.1 c a).mpr ⟨q', hq', h5⟩, g3⟩
      subst e2
      have h7 := g2 (h - 1) rfl
      have h8 := (hw.2 h rfl).2
      omega
  · intro ps ih hw c r
    rw [Wf] at hw
    rw [L_mixed, left]
    simp only [mem_once]
    have key : ∀ (qs ahead : List Pat), (∀ q ∈ qs, q ∈ ps) → ((∃ q ∈ leftMix c ahead qs, L q r) ↔ ∃ a b, Shuf a b r ∧ Lm ahead a ∧ ∃ b', Lm qs (c :: b') ∧ b = b') := by
      intro qs
      induction qs generalizing r with
      | nil =>
        intro ahead _
        rw [leftMix]
        constructor
        · rintro ⟨q, hq, _⟩
          cases hq
        · rintro ⟨a, b, _, _, b', h, _⟩
          have := Lm_nil.mp h
          cases this
      | cons p qs ih2 =>
        intro ahead hs
        have i1 := fun r => ih p (hs p List.mem_cons_self) (hw p (hs p List.mem_cons_self)) c r
        have i2 := ih2 r (ahead ++ [p]) (fun q hq => hs q (List.mem_cons_of_mem _ hq))
        rw [leftMix]
        constructor
        · rintro ⟨q, hq, h3⟩
          rcases List.mem_append.mp hq with hq | hq
          · obtain ⟨q', hq', e⟩ := List.mem_map.mp hq
            subst e
            obtain ⟨a, b, h4, h5, h6⟩ := Lm_append.mp (L_mixed'.mp h3)
            obtain ⟨b1, b2, h7, h8, h9⟩ := Lm_cons.mp h6
            exact ⟨a, b, h4, h5, b, Lm_cons.mpr ⟨c :: b1, b2, .goL c h7, (i1 b1).mpr ⟨q', hq', h8⟩, h9⟩, rfl⟩
          · obtain ⟨a, b, h4, h5, b', h6, e⟩ := i2.mp ⟨q, hq, h3⟩
            subst e
            obtain ⟨a1, a2, h7, h8, h9⟩ := Lm_append.mp h5
            obtain ⟨bc, g1, g2⟩ := Shuf.assoc h7 h4
            exact ⟨a1, bc, g2, h8, bc, Lm_cons.mpr ⟨a2, c :: b, .goR c g1, Lm_one.mp h9, h6⟩, rfl⟩
        · rintro ⟨a, b, h4, h5, b', h6, e⟩
          subst e
          obtain ⟨x, y, h7, h8, h9⟩ := Lm_cons.mp h6
          rcases h7.cons_inv with ⟨x', e, h10⟩ | ⟨y', e, h10⟩
          · subst e
            obtain ⟨q, hq, h11⟩ := (i1 x').mp h8
            exact ⟨_, List.mem_append_left _ (List.mem_map.mpr ⟨q, hq, rfl⟩), L_mixed'.mpr (Lm_append.mpr ⟨a, b, h4, h5, Lm_cons.mpr ⟨x', y, h10, h11, h9⟩⟩)⟩
          · subst e
            obtain ⟨ab, g1, g2⟩ := Shuf.assoc' h10 h4
            obtain ⟨q, hq, h11⟩ := i2.mpr ⟨ab, y', g2, Lm_append.mpr ⟨a, x, g1, h5, Lm_one.mpr h8⟩, y', h9, rfl⟩
            exact ⟨q, List.mem_append_right _ hq, h11⟩
    rw [key ps [] fun q hq => hq]
    constructor
    · intro h
      exact ⟨[], r, Shuf.all_right r, Lm_nil.mpr rfl, r, h, rfl⟩
    · rintro ⟨a, b, h4, h5, b', h6, e⟩
      have := Lm_nil.mp h5
      subst this e
      rw [← h4.nil_left]
      exact h6
end KM
end
section
set_option Elab.async false
set_option linter.all false
/-! ## The makers keep the form; all that is ever left of a pattern: a finite list; its bounds -/
namespace KM
open PySem
open Classical
/-! ### the form -/
theorem fl_cons (p : Pat) (ps : List Pat) : fl (p :: ps) = parts p ++ fl ps := rfl
theorem fl_append (ps qs : List Pat) : fl (ps ++ qs) = fl ps ++ fl qs := by unfold fl; rw [List.flatMap_append]
theorem flm_cons (p : Pat) (ps : List Pat) : flm (p :: ps) = mparts p ++ flm ps := rfl
theorem flm_append (ps qs : List Pat) : flm (ps ++ qs) = flm ps ++ flm qs := by unfold flm; rw [List.flatMap_append]
def NC (q : Pat) : Prop := Cn q ∧ isChain q = false
def NM (q : Pat) : Prop := Cn q ∧ isMixed q = false ∧ isEmpty q = false
theorem parts_nc {p : Pat} (h : Cn p) : ∀ q ∈ parts p, NC q := by
  intro q hq
  cases p with
  | chain ps =>
    rw [Cn] at h
    exact h.2 q hq
  | _ =>
    have e := List.mem_singleton.mp hq
    subst e
    exact ⟨h, rfl⟩
theorem fl_nc {ps : List Pat} (h : ∀ p ∈ ps, Cn p) : ∀ q ∈ fl ps, NC q := by
  intro q hq
  obtain ⟨p, hp, hq2⟩ := List.mem_flatMap.mp hq
  exact parts_nc (h p hp) q hq2
theorem cn_mk {xs : List Pat} (h : ∀ q ∈ xs, NC q) : Cn (mk xs) := by
  match xs with
  | [] => show Cn (.chain []); rw [Cn]; exact ⟨by simp, fun p hp => by cases hp⟩
  | [x] => exact (h x (List.mem_singleton.mpr rfl)).1
  | x :: y :: xs => show Cn (.chain (x :: y :: xs)); rw [Cn]; exact ⟨by simp, fun p hp => h p hp⟩
theorem cn_chain' {ps : List Pat} (h : ∀ p ∈ ps, Cn p) : Cn (chain' ps) := cn_mk (fl_nc h)
theorem parts_of_nc {x : Pat} (h : isChain x = false) : parts x = [x] := by
  cases x with
  | chain ps => cases h
  | _ => rfl
theorem parts_mk {xs : List Pat} (h : ∀ q ∈ xs, NC q) : parts (mk xs) = xs := by
  match xs with
  | [] => rfl
  | [x] => exact parts_of_nc (h x (List.mem_singleton.mpr rfl)).2
  | x :: y :: xs => rfl
theorem mk_parts {d : Pat} (h : Cn d) : mk (parts d) = d := by
  cases d with
  | chain ps =>
    rw [Cn] at h
    match ps, h with
    | [], _ => rfl
    | [x], h => exact absurd rfl h.1
    | x :: y :: ps, _ => rfl
  | _ => rfl
theorem parts_chain' {ps : List Pat} (h : ∀ p ∈ ps, Cn p) : parts (chain' ps) = fl ps := parts_mk (fl_nc h)
theorem fl_of_nc {xs : List Pat} (h : ∀ q ∈ xs, NC q) : fl xs = xs := by
  induction xs with
  | nil => rfl
  | cons x xs ih => rw [fl_cons, parts_of_nc (h x List.mem_cons_self).2, ih fun q hq => h q (List.mem_cons_of_mem _ hq)]; rfl
theorem chain'_chain' {xs ys : List Pat} (h : ∀ p ∈ xs, Cn p) : chain' (chain' xs :: ys) = chain' (xs ++ ys) := by
  unfold chain'
  rw [fl_cons, fl_append]
  have := parts_chain' h
  unfold chain' at this
  rw [this]
theorem chain'_fl {d : Pat} {ps : List Pat} (h : ∀ p ∈ ps, Cn p) : chain' (d :: fl ps) = chain' (d :: ps) := by
  unfold chain'
  rw [fl_cons, fl_cons, fl_of_nc (fl_nc h)]
theorem chain'_one {d : Pat} (h : Cn d) : chain' [d] = d := by
  unfold chain'
  rw [fl_cons]
  show mk (parts d ++ []) = d
  rw [List.append_nil, mk_parts h]
theorem mparts_nm {p : Pat} (h : Cn p) : ∀ q ∈ mparts p, NM q := by
  intro q hq
  cases p with
  | mixed ps =>
    rw [Cn] at h
    exact h.2 q hq
  | chain ps =>
    cases ps with
    | nil => cases hq
    | cons x xs =>
      have e := List.mem_singleton.mp hq
      subst e
      exact ⟨h, rfl, rfl⟩
  | _ =>
    have e := List.mem_singleton.mp hq
    subst e
    exact ⟨h, rfl, rfl⟩
theorem flm_nm {ps : List Pat} (h : ∀ p ∈ ps, Cn p) : ∀ q ∈ flm ps, NM q := by
  intro q hq
  obtain ⟨p, hp, hq2⟩ := List.mem_flatMap.mp hq
  exact mparts_nm (h p hp) q hq2
theorem cn_empty : Cn (.chain []) := by rw [Cn]; exact ⟨by simp, fun p hp => by cases hp⟩
theorem cn_mkm {xs : List Pat} (h : ∀ q ∈ xs, NM q) : Cn (mkm xs) := by
  match xs with
  | [] => exact cn_empty
  | [x] => exact (h x (List.mem_singleton.mpr rfl)).1
  | x :: y :: xs => show Cn (.mixed (x :: y :: xs)); rw [Cn]; exact ⟨by simp, fun p hp => h p hp⟩
theorem cn_mixed' {ps : List Pat} (h : ∀ p ∈ ps, Cn p) : Cn (mixed' ps) := cn_mkm (flm_nm h)
theorem mparts_of_nm {x : Pat} (h1 : isMixed x = false) (h2 : isEmpty x = false) : mparts x = [x] := by
  cases x with
  | mixed ps => cases h1
  | chain ps =>
    cases ps with
    | nil => cases h2
    | cons y ys => rfl
  | _ => rfl
theorem mparts_mkm {xs : List Pat} (h : ∀ q ∈ xs, NM q) : mparts (mkm xs) = xs := by
  match xs with
  | [] => rfl
  | [x] => exact mparts_of_nm (h x (List.mem_singleton.mpr rfl)).2.1 (h x (List.mem_singleton.mpr rfl)).2.2
  | x :: y :: xs => rfl
theorem mkm_mparts {d : Pat} (h : Cn d) : mkm (mparts d) = d := by
  cases d with
  | mixed ps =>
    rw [Cn] at h
    match ps, h with
    | [], h => exact absurd h.1 (by simp)
    | [x], h => exact absurd h.1 (by simp)
    | x :: y :: ps, _ => rfl
  | chain ps =>
    cases ps with
    | nil => rfl
    | cons y ys => rfl
  | _ => rfl
theorem mparts_mixed' {ps : List Pat} (h : ∀ p ∈ ps, Cn p) : mparts (mixed' ps) = flm ps := mparts_mkm (flm_nm h)
theorem flm_of_nm {xs : List Pat} (h : ∀ q ∈ xs, NM q) : flm xs = xs := by
  induction xs with
  | nil => rfl
  | cons x xs ih => rw [flm_cons, mparts_of_nm (h x List.mem_cons_self).2.1 (h x List.mem_cons_self).2.2, ih fun q hq => h q (List.mem_cons_of_mem _ hq)]; rfl
theorem mixed'_one {d : Pat} (h : Cn d) : mixed' [d] = d := by
  unfold mixed'
  rw [flm_cons]
  show mkm (mparts d ++ []) = d
  rw [List.append_nil, mkm_mparts h]
theorem cn_times' {p : Pat} {lo : Nat} {hi : Option Nat} (h : Cn p) (hc : CntOk lo hi) : Cn (times' p lo hi) := by
  unfold times'
  by_cases h1 : hi = some 0 ∨ isEmpty p = true
  · rw [if_pos h1]; exact cn_empty
  · rw [if_neg h1]
    by_cases h2 : lo = 1 ∧ hi = some 1
    · rw [if_pos h2]; exact h
    · rw [if_neg h2, Cn]
      refine ⟨h, ?_, hc, fun e => h1 (.inl e), h2⟩
      cases e : isEmpty p with
      | false => rfl
      | true => exact absurd (.inr e) h1
theorem oparts_no {p : Pat} (h : Cn p) : ∀ q ∈ oparts p, Cn q ∧ isChoice q = false := by
  intro q hq
  cases p with
  | choice ps =>
    rw [Cn] at h
    exact h.2.2 q hq
  | _ =>
    have e := List.mem_singleton.mp hq
    subst e
    exact ⟨h, rfl⟩
theorem cn_choice' {ps : List Pat} (h : ∀ p ∈ ps, Cn p) (hne : flo ps ≠ []) : Cn (choice' ps) := by
  unfold choice'
  have hn := nodup_once (flo ps)
  have ha : ∀ q ∈ once (flo ps), Cn q ∧ isChoice q = false := by
    intro q hq
    obtain ⟨p, hp, hq2⟩ := List.mem_flatMap.mp ((mem_once _).mp hq)
    exact oparts_no (h p hp) q hq2
  have h0 : once (flo ps) ≠ [] := by
    intro e
    cases e2 : flo ps with
    | nil => exact hne e2
    | cons x xs =>
      have : x ∈ once (flo ps) := (mem_once _).mpr (by rw [e2]; exact List.mem_cons_self)
      rw [e] at this
      cases this
  generalize once (flo ps) = ys at hn ha h0
  match ys with
  | [] => exact absurd rfl h0
  | [x] => exact (ha x (List.mem_singleton.mpr rfl)).1
  | x :: y :: xs => show Cn (.choice (x :: y :: xs)); rw [Cn]; exact ⟨by simp, hn, ha⟩
theorem cnt_dec {lo : Nat} {hi : Option Nat} (h : CntOk lo hi) : CntOk (lo - 1) (dec hi) := by
  refine ⟨by have := h.1; omega, fun k e => ?_⟩
  cases hi with
  | none => cases e
  | some j =>
    have := h.2 j rfl
    have e2 : j - 1 = k := Option.some.inj e
    omega
theorem cn_leftChain {c : List Str} {ps : List Pat} (h : ∀ p ∈ ps, Cn p) (ih : ∀ p ∈ ps, ∀ q ∈ left c p, Cn q) : ∀ q ∈ leftChain c ps, Cn q := by
  induction ps with
  | nil => intro q hq; rw [leftChain] at hq; cases hq
  | cons p ps ih2 =>
    intro q hq
    rw [leftChain] at hq
    rcases List.mem_append.mp hq with hq | hq
    · obtain ⟨r, hr, e⟩ := List.mem_map.mp hq
      subst e
      exact cn_chain' fun x hx => by
        rcases List.mem_cons.mp hx with e | hx
        · subst e; exact ih p List.mem_cons_self _ hr
        · exact h x (List.mem_cons_of_mem _ hx)
    · by_cases hb : bare p = true
      · rw [if_pos hb] at hq
        exact ih2 (fun q hq => h q (List.mem_cons_of_mem _ hq)) (fun q hq => ih q (List.mem_cons_of_mem _ hq)) q hq
      · rw [if_neg hb] at hq; cases hq
theorem mem_leftMix {c : List Str} {xs : List Pat} : ∀ {a : List Pat} {r : Pat}, r ∈ leftMix c a xs ↔ ∃ u x v, xs = u ++ x :: v ∧ ∃ e ∈ left c x, r = mixed' (a ++ (u ++ e :: v)) := by
  induction xs with
  | nil =>
    intro a r
    rw [leftMix]
    constructor
    · intro h; cases h
    · rintro ⟨u, x, v, e, _⟩
      exact absurd e (by simp)
  | cons p ps ih =>
    intro a r
    rw [leftMix, List.mem_append, ih]
    constructor
    · rintro (h | ⟨u, x, v, e, y, hy, e2⟩)
      · obtain ⟨y, hy, e⟩ := List.mem_map.mp h
        exact ⟨[], p, ps, rfl, y, hy, e.symm⟩
      · exact ⟨p :: u, x, v, by rw [e]; rfl, y, hy, by rw [e2, List.append_assoc]; rfl⟩
    · rintro ⟨u, x, v, e, y, hy, e2⟩
      cases u with
      | nil =>
        have e3 : p :: ps = x :: v := e
        injection e3 with e4 e5
        subst e4 e5
        exact .inl (List.mem_map.mpr ⟨y, hy, e2.symm⟩)
      | cons w u =>
        have e3 : p :: ps = w :: (u ++ x :: v) := e
        injection e3 with e4 e5
        subst e4
        exact .inr ⟨u, x, v, e5, y, hy, by rw [e2, List.append_assoc]; rfl⟩
theorem left_cn : ∀ p, Cn p → ∀ c, ∀ q ∈ left c p, Cn q := by
  refine Pat.ind ?_ ?_ ?_ ?_ ?_
  · intro f _ c q hq
    rw [left] at hq
    split at hq
    · rw [List.mem_singleton.mp hq]; exact cn_empty
    · cases hq
  · intro ps ih h c q hq
    rw [left, mem_once] at hq
    exact cn_leftChain (cn_chain h) (fun p hp => ih p hp (cn_chain h p hp) c) q hq
  · intro ps ih h c q hq
    rw [left, mem_once] at hq
    obtain ⟨p, hp, hq2⟩ := leftAll_iff.mp hq
    exact ih p hp (cn_choice h p hp) c q hq2
  · intro p lo hi ih h c q hq
    rw [left, mem_once] at hq
    obtain ⟨r, hr, e⟩ := List.mem_map.mp hq
    subst e
    have hp := cn_times h
    rw [Cn] at h
    refine cn_chain' fun x hx => ?_
    rcases List.mem_cons.mp hx with e | hx
    · rw [e]; exact ih hp c r hr
    · rw [List.mem_singleton.mp hx]
      exact cn_times' hp (cnt_dec h.2.2.1)
  · intro ps ih h c q hq
    rw [left, mem_once] at hq
    obtain ⟨u, x, v, e, y, hy, e2⟩ := mem_leftMix.mp hq
    subst e2
    have hx : ∀ z ∈ u ++ x :: v, Cn z := fun z hz => cn_mixed h z (by rw [e]; exact hz)
    refine cn_mixed' fun z hz => ?_
    rcases List.mem_append.mp hz with hz | hz
    · cases hz
    · rcases List.mem_append.mp hz with hz | hz
      · exact hx z (List.mem_append_left _ hz)
      · rcases List.mem_cons.mp hz with e3 | hz
        · rw [e3]
          exact ih x (by rw [e]; exact List.mem_append_right _ List.mem_cons_self) (hx x (List.mem_append_right _ List.mem_cons_self)) c y hy
        · exact hx z (List.mem_append_right _ (List.mem_cons_of_mem _ hz))

/-! ### all that is ever left of a pattern -/
def cnts (lo : Nat) : Option Nat → List (Nat × Option Nat)
  | none => (List.range (lo + 1)).map fun j => (lo - (j + 1), none)
  | some h => (List.range h).map fun j => (lo - (j + 1), some (h - (j + 1)))
mutual
noncomputable def D : Pat → List Pat
  | .one f => [.one f, .chain []]
  | .chain ps => Dc ps
  | .choice ps => .choice ps :: Do ps
  | .times p lo hi => .times p lo hi :: (cnts lo hi).flatMap fun x => (D p).map fun d => chain' [d, times' p x.1 x.2]
  | .mixed ps => (Dm ps).map mixed'
noncomputable def Dc : List Pat → List Pat
  | [] => [.chain []]
  | p :: ps => (D p).map (fun d => chain' (d :: ps)) ++ Dc ps
noncomputable def Do : List Pat → List Pat
  | [] => []
  | p :: ps => D p ++ Do ps
noncomputable def Dm : List Pat → List (List Pat)
  | [] => [[]]
  | p :: ps => (D p).flatMap fun d => (Dm ps).map fun ds => d :: ds
end
theorem mem_Do {ps : List Pat} {q : Pat} : q ∈ Do ps ↔ ∃ p ∈ ps, q ∈ D p := by
  induction ps with
  | nil => rw [Do]; simp
  | cons p ps ih => rw [Do, List.mem_append, ih]; simp
theorem mem_Dm_cons {p : Pat} {ps ds : List Pat} : ds ∈ Dm (p :: ps) ↔ ∃ d ds', ds = d :: ds' ∧ d ∈ D p ∧ ds' ∈ Dm ps := by
  rw [Dm, List.mem_flatMap]
  constructor
  · rintro ⟨d, hd, h⟩
    obtain ⟨ds', h2, e⟩ := List.mem_map.mp h
    exact ⟨d, ds', e.symm, hd, h2⟩
  · rintro ⟨d, ds', e, hd, h2⟩
    exact ⟨d, hd, List.mem_map.mpr ⟨ds', h2, e.symm⟩⟩
theorem cnts_first {lo : Nat} {hi : Option Nat} (h : hi ≠ some 0) : (lo - 1, dec hi) ∈ cnts lo hi := by
  cases hi with
  | none => exact List.mem_map.mpr ⟨0, List.mem_range.mpr (by omega), rfl⟩
  | some k =>
    have : k ≠ 0 := fun e => h (by rw [e])
    exact List.mem_map.mpr ⟨0, List.mem_range.mpr (by omega), rfl⟩
theorem cnts_next {lo : Nat} {hi : Option Nat} {l : Nat} {h : Option Nat} (hm : (l, h) ∈ cnts lo hi) (h0 : h ≠ some 0) : (l - 1, dec h) ∈ cnts lo hi := by
  cases hi with
  | none =>
    obtain ⟨j, hj, e⟩ := List.mem_map.mp hm
    have hj := List.mem_range.mp hj
    injection e with e1 e2
    subst e1 e2
    by_cases q : j + 1 < lo + 1
    · exact List.mem_map.mpr ⟨j + 1, List.mem_range.mpr q, by show (lo - (j + 1 + 1), none) = (lo - (j + 1) - 1, none); congr 1⟩
    · exact List.mem_map.mpr ⟨j, List.mem_range.mpr hj, by show (lo - (j + 1), none) = (lo - (j + 1) - 1, none); rw [show lo - (j + 1) - 1 = lo - (j + 1) by omega]⟩
  | some k =>
    obtain ⟨j, hj, e⟩ := List.mem_map.mp hm
    have hj := List.mem_range.mp hj
    injection e with e1 e2
    subst e1 e2
    have : k - (j + 1) ≠ 0 := fun e => h0 (by rw [e])
    refine List.mem_map.mpr ⟨j + 1, List.mem_range.mpr (by omega), ?_⟩
    show (lo - (j + 1 + 1), some (k - (j + 1 + 1))) = (lo - (j + 1) - 1, some (k - (j + 1) - 1))
    rw [show lo - (j + 1 + 1) = lo - (j + 1) - 1 by omega, show k - (j + 1 + 1) = k - (j + 1) - 1 by omega]
theorem cnts_ok {lo : Nat} {hi : Option Nat} (hc : CntOk lo hi) {l : Nat} {h : Option Nat} (hm : (l, h) ∈ cnts lo hi) : CntOk l h := by
  cases hi with
  | none =>
    obtain ⟨j, hj, e⟩ := List.mem_map.mp hm
    injection e with e1 e2
    subst e1 e2
    exact ⟨by have := hc.1; omega, fun _ q => by cases q⟩
  | some k =>
    obtain ⟨j, hj, e⟩ := List.mem_map.mp hm
    injection e with e1 e2
    subst e1 e2
    have := hc.2 k rfl
    exact ⟨by have := hc.1; omega, fun _ q => by injection q; omega⟩
theorem mem_left_mk {c : List Str} {xs : List Pat} (h : ∀ q ∈ xs, NC q) {r : Pat} : r ∈ left c (mk xs) ↔ r ∈ leftChain c xs := by
  match xs with
  | [] => show r ∈ left c (.chain []) ↔ _; rw [left, mem_once]
  | [x] =>
    show r ∈ left c x ↔ _
    rw [leftChain, leftChain]
    have hx := (h x (List.mem_singleton.mpr rfl)).1
    constructor
    · intro hr
      exact List.mem_append_left _ (List.mem_map.mpr ⟨r, hr, chain'_one (left_cn x hx c r hr)⟩)
    · intro hr
      rcases List.mem_append.mp hr with hr | hr
      · obtain ⟨y, hy, e⟩ := List.mem_map.mp hr
        rw [← e, chain'_one (left_cn x hx c y hy)]
        exact hy
      · split at hr <;> cases hr
  | x :: y :: xs => show r ∈ left c (.chain (x :: y :: xs)) ↔ _; rw [left, mem_once]
theorem leftChain_append {c : List Str} {xs ys : List Pat} (hx : ∀ p ∈ xs, Cn p) {r : Pat} (h : r ∈ leftChain c (xs ++ ys)) : (∃ e ∈ leftChain c xs, r = chain' (e :: ys)) ∨ r ∈ leftChain c ys := by
  induction xs with
  | nil => exact .inr h
  | cons x xs ih =>
    rw [List.cons_append, leftChain] at h
    rcases List.mem_append.mp h with h | h
    · obtain ⟨e, he, e2⟩ := List.mem_map.mp h
      refine .inl ⟨chain' (e :: xs), ?_, ?_⟩
      · rw [leftChain]
        exact List.mem_append_left _ (List.mem_map.mpr ⟨e, he, rfl⟩)
      · rw [← e2]
        refine (chain'_chain' (xs := e :: xs) (ys := ys) fun p hp => ?_).symm
        rcases List.mem_cons.mp hp with q | hp
        · rw [q]; exact left_cn x (hx x List.mem_cons_self) c e he
        · exact hx p (List.mem_cons_of_mem _ hp)
    · by_cases hb : bare x = true
      · rw [if_pos hb] at h
        rcases ih (fun p hp => hx p (List.mem_cons_of_mem _ hp)) h with ⟨e, he, e2⟩ | h
        · refine .inl ⟨e, ?_, e2⟩
          rw [leftChain, if_pos hb]
          exact List.mem_append_right _ he
        · exact .inr h
      · rw [if_neg hb] at h; cases h
theorem left_chain'_cons {c : List Str} {d : Pat} {ps : List Pat} (hd : Cn d) (hp : ∀ p ∈ ps, Cn p) {r : Pat} (h : r ∈ left c (chain' (d :: ps))) : (∃ e ∈ left c d, r = chain' (e :: ps)) ∨ r ∈ left c (chain' ps) := by
  have h1 : ∀ q ∈ parts d ++ fl ps, NC q := fun q hq => by
    rcases List.mem_append.mp hq with hq | hq
    · exact parts_nc hd q hq
    · exact fl_nc hp q hq
  have h2 : r ∈ leftChain c (parts d ++ fl ps) := (mem_left_mk h1).mp h
  rcases leftChain_append (fun p hp2 => (parts_nc hd p hp2).1) h2 with ⟨e, he, e2⟩ | h3
  · refine .inl ⟨e, ?_, by rw [e2, chain'_fl hp]⟩
    have := (mem_left_mk (parts_nc hd)).mpr he
    rwa [mk_parts hd] at this
  · exact .inr ((mem_left_mk (fl_nc hp)).mpr h3)
theorem left_times' {c : List Str} {p : Pat} {lo : Nat} {hi : Option Nat} (hp : Cn p) {r : Pat} (h : r ∈ left c (times' p lo hi)) : hi ≠ some 0 ∧ ∃ e ∈ left c p, r = chain' [e, times' p (lo - 1) (dec hi)] := by
  unfold times' at h
  by_cases h1 : hi = some 0 ∨ isEmpty p = true
  · rw [if_pos h1, left, mem_once, leftChain] at h; cases h
  · rw [if_neg h1] at h
    refine ⟨fun e => h1 (.inl e), ?_⟩
    by_cases h2 : lo = 1 ∧ hi = some 1
    · rw [if_pos h2] at h
      obtain ⟨rfl, rfl⟩ := h2
      refine ⟨r, h, ?_⟩
      have e : times' p (1 - 1) (dec (some 1)) = .chain [] := by
        unfold times'
        exact if_pos (.inl rfl)
      rw [e]
      unfold chain'
      show r = mk (parts r ++ [])
      rw [List.append_nil, mk_parts (left_cn p hp c r h)]
    · rw [if_neg h2, left, mem_once] at h
      obtain ⟨e, he, e2⟩ := List.mem_map.mp h
      exact ⟨e, he, e2.symm⟩
theorem flm_split {u v : List Pat} {x : Pat} : ∀ {ds : List Pat}, flm ds = u ++ x :: v → ∃ ds1 d ds2 u' v', ds = ds1 ++ d :: ds2 ∧ mparts d = u' ++ x :: v' ∧ u = flm ds1 ++ u' ∧ v = v' ++ flm ds2
  | [], e => by
    have e2 : [] = u ++ x :: v := e
    exact absurd e2 (by simp)
  | d :: ds, e => by
    rw [flm_cons] at e
    rcases List.append_eq_append_iff.mp e with ⟨a, e1, e2⟩ | ⟨a, e1, e2⟩
    · obtain ⟨ds1, d', ds2, u', v', h1, h2, h3, h4⟩ := flm_split (ds := ds) e2
      exact ⟨d :: ds1, d', ds2, u', v', by rw [h1]; rfl, h2, by rw [e1, h3, flm_cons, List.append_assoc], h4⟩
    · cases a with
      | nil =>
        have e3 : flm ds = [] ++ x :: v := by simpa using e2.symm
        obtain ⟨ds1, d', ds2, u', v', h1, h2, h3, h4⟩ := flm_split (ds := ds) e3
        refine ⟨d :: ds1, d', ds2, u', v', by rw [h1]; rfl, h2, ?_, h4⟩
        have e4 : mparts d = u := by simpa using e1
        have e5 : ([] : List Pat) = flm ds1 ++ u' := h3
        rw [flm_cons, List.append_assoc, ← e5, List.append_nil, e4]
      | cons y a =>
        have e3 : x :: v = y :: (a ++ flm ds) := e2
        injection e3 with e4 e5
        subst e4
        exact ⟨[], d, ds, u, a, rfl, e1, rfl, e5⟩
theorem mem_left_mkm {c : List Str} {xs : List Pat} (h : ∀ q ∈ xs, NM q) {r : Pat} : r ∈ left c (mkm xs) ↔ ∃ u x v, xs = u ++ x :: v ∧ ∃ e ∈ left c x, r = mixed' (u ++ e :: v) := by
  match xs with
  | [] =>
    show r ∈ left c (.chain []) ↔ _
    rw [left, mem_once, leftChain]
    constructor
    · intro h; cases h
    · rintro ⟨u, x, v, e, _⟩
      exact absurd e (by simp)
  | [x] =>
    show r ∈ left c x ↔ _
    have hx := (h x (List.mem_singleton.mpr rfl)).1
    constructor
    · intro hr
      exact ⟨[], x, [], rfl, r, hr, (mixed'_one (left_cn x hx c r hr)).symm⟩
    · rintro ⟨u, y, v, e, z, hz, e2⟩
      cases u with
      | nil =>
        have e3 : x :: [] = y :: v := e
        injection e3 with e4 e5
        subst e4 e5
        rw [e2]
        show mixed' [z] ∈ left c x
        rw [mixed'_one (left_cn x hx c z hz)]
        exact hz
      | cons w u =>
        have e3 : x :: [] = w :: (u ++ y :: v) := e
        injection e3 with _ e5
        exact absurd e5 (by simp)
  | x :: y :: xs =>
    show r ∈ left c (.mixed (x :: y :: xs)) ↔ _
    rw [left, mem_once, mem_leftMix]
    rfl
theorem left_mixed' {c : List Str} {ds : List Pat} (hd : ∀ p ∈ ds, Cn p) {r : Pat} (h : r ∈ left c (mixed' ds)) : ∃ ds1 d ds2, ds = ds1 ++ d :: ds2 ∧ ∃ e ∈ left c d, r = mixed' (ds1 ++ e :: ds2) := by
  obtain ⟨u, x, v, e, y, hy, e2⟩ := (mem_left_mkm (flm_nm hd)).mp h
  obtain ⟨ds1, d, ds2, u', v', h1, h2, h3, h4⟩ := flm_split e
  have hd1 : ∀ p ∈ ds1, Cn p := fun p hp => hd p (by rw [h1]; exact List.mem_append_left _ hp)
  have hd2 : ∀ p ∈ ds2, Cn p := fun p hp => hd p (by rw [h1]; exact List.mem_append_right _ (List.mem_cons_of_mem _ hp))
  have hdd : Cn d := hd d (by rw [h1]; exact List.mem_append_right _ List.mem_cons_self)
  have hm := mparts_nm hdd
  have hxy : ∀ p ∈ u' ++ y :: v', Cn p := fun p hp => by
    rcases List.mem_append.mp hp with hp | hp
    · exact (hm p (by rw [h2]; exact List.mem_append_left _ hp)).1
    · rcases List.mem_cons.mp hp with q | hp
      · rw [q]
        exact left_cn x (hm x (by rw [h2]; exact List.mem_append_right _ List.mem_cons_self)).1 c y hy
      · exact (hm p (by rw [h2]; exact List.mem_append_right _ (List.mem_cons_of_mem _ hp))).1
  refine ⟨ds1, d, ds2, h1, mixed' (u' ++ y :: v'), ?_, ?_⟩
  · have := (mem_left_mkm hm).mpr ⟨u', x, v', h2, y, hy, rfl⟩
    rwa [mkm_mparts hdd] at this
  · rw [e2]
    have e5 : mparts (mixed' (u' ++ y :: v')) = flm (u' ++ y :: v') := mparts_mixed' hxy
    show mkm (flm (u ++ y :: v)) = mkm (flm (ds1 ++ mixed' (u' ++ y :: v') :: ds2))
    congr 1
    rw [flm_append, flm_cons, flm_append, flm_cons, e5, flm_append, flm_cons, h3, h4, flm_append, flm_append, flm_of_nm (flm_nm hd1), flm_of_nm (flm_nm hd2)]
    simp only [List.append_assoc]
def Closed (p : Pat) : Prop := p ∈ D p ∧ (∀ q ∈ D p, Cn q) ∧ ∀ q ∈ D p, ∀ c, ∀ r ∈ left c q, r ∈ D p
theorem closed_c {ps : List Pat} (h : ∀ p ∈ ps, Cn p) (ih : ∀ p ∈ ps, Closed p) : chain' ps ∈ Dc ps ∧ (∀ q ∈ Dc ps, Cn q) ∧ ∀ q ∈ Dc ps, ∀ c, ∀ r ∈ left c q, r ∈ Dc ps := by
  induction ps with
  | nil =>
    rw [Dc]
    refine ⟨List.mem_singleton.mpr rfl, fun q hq => by rw [List.mem_singleton.mp hq]; exact cn_empty, fun q hq c r hr => ?_⟩
    rw [List.mem_singleton.mp hq, left, mem_once, leftChain] at hr
    cases hr
  | cons p ps ih2 =>
    obtain ⟨a1, a2, a3⟩ := ih2 (fun q hq => h q (List.mem_cons_of_mem _ hq)) (fun q hq => ih q (List.mem_cons_of_mem _ hq))
    obtain ⟨b1, b2, b3⟩ := ih p List.mem_cons_self
    have hps : ∀ q ∈ ps, Cn q := fun q hq => h q (List.mem_cons_of_mem _ hq)
    rw [Dc]
    refine ⟨List.mem_append_left _ (List.mem_map.mpr ⟨p, b1, rfl⟩), fun q hq => ?_, fun q hq c r hr => ?_⟩
    · rcases List.mem_append.mp hq with hq | hq
      · obtain ⟨d, hd, e⟩ := List.mem_map.mp hq
        subst e
        exact cn_chain' fun x hx => by
          rcases List.mem_cons.mp hx with e | hx
          · rw [e]; exact b2 d hd
          · exact hps x hx
      · exact a2 q hq
    · rcases List.mem_append.mp hq with hq | hq
      · obtain ⟨d, hd, e⟩ := List.mem_map.mp hq
        subst e
        rcases left_chain'_cons (b2 d hd) hps hr with ⟨e, he, e2⟩ | hr
        · exact List.mem_append_left _ (List.mem_map.mpr ⟨e, b3 d hd c e he, e2.symm⟩)
        · exact List.mem_append_right _ (a3 _ a1 c r hr)
      · exact List.mem_append_right _ (a3 q hq c r hr)
theorem closed_m {ps : List Pat} (ih : ∀ p ∈ ps, Closed p) : ps ∈ Dm ps ∧ (∀ ds ∈ Dm ps, ∀ q ∈ ds, Cn q) ∧ ∀ ds1 d ds2, ds1 ++ d :: ds2 ∈ Dm ps → ∀ c, ∀ e ∈ left c d, ds1 ++ e :: ds2 ∈ Dm ps := by
  induction ps with
  | nil =>
    rw [Dm]
    refine ⟨List.mem_singleton.mpr rfl, fun ds h q hq => ?_, fun ds1 d ds2 h => ?_⟩
    · rw [List.mem_singleton.mp h] at hq; cases hq
    · have := List.mem_singleton.mp h
      exact absurd this (by simp)
  | cons p ps ih2 =>
    obtain ⟨a1, a2, a3⟩ := ih2 fun q hq => ih q (List.mem_cons_of_mem _ hq)
    obtain ⟨b1, b2, b3⟩ := ih p List.mem_cons_self
    refine ⟨mem_Dm_cons.mpr ⟨p, ps, rfl, b1, a1⟩, fun ds h q hq => ?_, fun ds1 d ds2 h c e he => ?_⟩
    · obtain ⟨d, ds', e, hd, h2⟩ := mem_Dm_cons.mp h
      subst e
      rcases List.mem_cons.mp hq with q2 | hq
      · rw [q2]; exact b2 d hd
      · exact a2 ds' h2 q hq
    · obtain ⟨d', ds', e1, hd, h2⟩ := mem_Dm_cons.mp h
      cases ds1 with
      | nil =>
        have e2 : d :: ds2 = d' :: ds' := e1
        injection e2 with e3 e4
        subst e3 e4
        exact mem_Dm_cons.mpr ⟨e, ds2, rfl, b3 d hd c e he, h2⟩
      | cons x ds1 =>
        have e2 : x :: (ds1 ++ d :: ds2) = d' :: ds' := e1
        injection e2 with e3 e4
        subst e3 e4
        exact mem_Dm_cons.mpr ⟨x, _, rfl, hd, a3 ds1 d ds2 h2 c e he⟩
theorem closed : ∀ p, Cn p → Closed p := by
  refine Pat.ind ?_ ?_ ?_ ?_ ?_
  · intro f h
    unfold Closed
    rw [D]
    refine ⟨List.mem_cons_self, fun q hq => ?_, fun q hq c r hr => ?_⟩
    · rcases List.mem_cons.mp hq with e | hq
      · rw [e]; exact h
      · rw [List.mem_singleton.mp hq]; exact cn_empty
    · rcases List.mem_cons.mp hq with e | hq
      · rw [e, left] at hr
        split at hr
        · rw [List.mem_singleton.mp hr]; exact List.mem_cons_of_mem _ (List.mem_singleton.mpr rfl)
        · cases hr
      · rw [List.mem_singleton.mp hq, left, mem_once, leftChain] at hr
        cases hr
  · intro ps ih h
    obtain ⟨a1, a2, a3⟩ := closed_c (cn_chain h) fun p hp => ih p hp (cn_chain h p hp)
    unfold Closed
    rw [D]
    refine ⟨?_, a2, a3⟩
    have hn : ∀ q ∈ ps, NC q := by rw [Cn] at h; exact h.2
    have e : chain' ps = .chain ps := by
      unfold chain'
      rw [fl_of_nc hn]
      exact mk_parts h
    rwa [e] at a1
  · intro ps ih h
    unfold Closed
    rw [D]
    refine ⟨List.mem_cons_self, fun q hq => ?_, fun q hq c r hr => ?_⟩
    · rcases List.mem_cons.mp hq with e | hq
      · rw [e]; exact h
      · obtain ⟨p, hp, hq2⟩ := mem_Do.mp hq
        exact (ih p hp (cn_choice h p hp)).2.1 q hq2
    · refine List.mem_cons_of_mem _ ?_
      rcases List.mem_cons.mp hq with e | hq
      · rw [e, left, mem_once] at hr
        obtain ⟨p, hp, hr2⟩ := leftAll_iff.mp hr
        obtain ⟨b1, b2, b3⟩ := ih p hp (cn_choice h p hp)
        exact mem_Do.mpr ⟨p, hp, b3 p b1 c r hr2⟩
      · obtain ⟨p, hp, hq2⟩ := mem_Do.mp hq
        exact mem_Do.mpr ⟨p, hp, (ih p hp (cn_choice h p hp)).2.2 q hq2 c r hr⟩
  · intro p lo hi ih h
    have hp := cn_times h
    obtain ⟨b1, b2, b3⟩ := ih hp
    have hcn : CntOk lo hi := by rw [Cn] at h; exact h.2.2.1
    have h0 : hi ≠ some 0 := by rw [Cn] at h; exact h.2.2.2.1
    unfold Closed
    rw [D]
    have mem : ∀ l k d, (l, k) ∈ cnts lo hi → d ∈ D p → chain' [d, times' p l k] ∈ .times p lo hi :: (cnts lo hi).flatMap fun x => (D p).map fun d => chain' [d, times' p x.1 x.2] := fun l k d h1 h2 =>
      List.mem_cons_of_mem _ (List.mem_flatMap.mpr ⟨(l, k), h1, List.mem_map.mpr ⟨d, h2, rfl⟩⟩)
    refine ⟨List.mem_cons_self, fun q hq => ?_, fun q hq c r hr => ?_⟩
    · rcases List.mem_cons.mp hq with e | hq
      · rw [e]; exact h
      · obtain ⟨⟨l, k⟩, h1, h2⟩ := List.mem_flatMap.mp hq
        obtain ⟨d, hd, e⟩ := List.mem_map.mp h2
        subst e
        exact cn_chain' fun x hx => by
          rcases List.mem_cons.mp hx with e | hx
          · rw [e]; exact b2 d hd
          · rw [List.mem_singleton.mp hx]; exact cn_times' hp (cnts_ok hcn h1)
    · rcases List.mem_cons.mp hq with e | hq
      · rw [e, left, mem_once] at hr
        obtain ⟨y, hy, e2⟩ := List.mem_map.mp hr
        rw [← e2]
        exact mem _ _ y (cnts_first h0) (b3 p b1 c y hy)
      · obtain ⟨⟨l, k⟩, h1, h2⟩ := List.mem_flatMap.mp hq
        obtain ⟨d, hd, e⟩ := List.mem_map.mp h2
        subst e
        have ht : Cn (times' p l k) := cn_times' hp (cnts_ok hcn h1)
        rcases left_chain'_cons (b2 d hd) (ps := [times' p l k]) (fun q hq => by rw [List.mem_singleton.mp hq]; exact ht) hr with ⟨e, he, e2⟩ | hr
        · rw [e2]
          exact mem l k e h1 (b3 d hd c e he)
        · rw [chain'_one ht] at hr
          obtain ⟨hk, e, he, e2⟩ := left_times' hp hr
          rw [e2]
          exact mem _ _ e (cnts_next h1 hk) (b3 p b1 c e he)
  · intro ps ih h
    obtain ⟨a1, a2, a3⟩ := closed_m fun p hp => ih p hp (cn_mixed h p hp)
    have hn : ∀ q ∈ ps, NM q := by rw [Cn] at h; exact h.2
    unfold Closed
    rw [D]
    refine ⟨List.mem_map.mpr ⟨ps, a1, ?_⟩, fun q hq => ?_, fun q hq c r hr => ?_⟩
    · unfold mixed'
      rw [flm_of_nm hn]
      exact mkm_mparts h
    · obtain ⟨ds, hds, e⟩ := List.mem_map.mp hq
      subst e
      exact cn_mixed' (a2 ds hds)
    · obtain ⟨ds, hds, e⟩ := List.mem_map.mp hq
      subst e
      obtain ⟨ds1, d, ds2, e1, e, he, e2⟩ := left_mixed' (a2 ds hds) hr
      subst e1
      exact List.mem_map.mpr ⟨_, a3 ds1 d ds2 hds c e he, e2.symm⟩
end KM
end
section
set_option Elab.async false
set_option linter.all false
/-! ## Measures: how many, how long, how deep -/
namespace KM
open PySem
open Classical
def cn (lo : Nat) : Option Nat → Nat
  | none => lo + 1
  | some h => h
mutual
def W : Pat → Nat
  | .one _ => 2
  | .chain ps => Ws ps + 1
  | .choice ps => Ws ps + 1
  | .times p lo hi => 1 + cn lo hi * W p
  | .mixed ps => Wp ps
def Ws : List Pat → Nat
  | [] => 0
  | p :: ps => W p + Ws ps
def Wp : List Pat → Nat
  | [] => 1
  | p :: ps => W p * Wp ps
end
mutual
def sz : Pat → Nat
  | .one f => f.cps.toList.length + 3
  | .chain ps => szs ps + 3
  | .choice ps => szs ps + 3
  | .times p _ _ => sz p + 12
  | .mixed ps => szs ps + 3
def szs : List Pat → Nat
  | [] => 0
  | p :: ps => sz p + 1 + szs ps
end
mutual
def dp : Pat → Nat
  | .one _ => 1
  | .chain ps => dps ps + 1
  | .choice ps => dps ps + 1
  | .times p _ _ => dp p + 1
  | .mixed ps => dps ps + 1
def dps : List Pat → Nat
  | [] => 0
  | p :: ps => max (dp p) (dps ps)
end
mutual
def sD : Pat → Nat
  | .one f => f.cps.toList.length + 3
  | .chain ps => sDs ps + 3
  | .choice ps => sDs ps + 3
  | .times p _ _ => sD p + sz p + 17
  | .mixed ps => sDs ps + 3
def sDs : List Pat → Nat
  | [] => 0
  | p :: ps => sD p + 1 + sDs ps
end
mutual
def dD : Pat → Nat
  | .one _ => 1
  | .chain ps => dDs ps + 1
  | .choice ps => dDs ps + 1
  | .times p _ _ => dD p + 2
  | .mixed ps => dDs ps + 1
def dDs : List Pat → Nat
  | [] => 0
  | p :: ps => max (dD p) (dDs ps)
end
/-! ### lists of them -/
theorem szs_append (ps qs : List Pat) : szs (ps ++ qs) = szs ps + szs qs := by
  induction ps with
  | nil => rw [szs]; simp
  | cons p ps ih => rw [List.cons_append, szs, szs, ih]; omega
theorem sDs_append (ps qs : List Pat) : sDs (ps ++ qs) = sDs ps + sDs qs := by
  induction ps with
  | nil => rw [sDs]; simp
  | cons p ps ih => rw [List.cons_append, sDs, sDs, ih]; omega
theorem Ws_append (ps qs : List Pat) : Ws (ps ++ qs) = Ws ps + Ws qs := by
  induction ps with
  | nil => rw [Ws]; simp
  | cons p ps ih => rw [List.cons_append, Ws, Ws, ih]; omega
theorem Wp_append (ps qs : List Pat) : Wp (ps ++ qs) = Wp ps * Wp qs := by
  induction ps with
  | nil => rw [Wp]; simp
  | cons p ps ih => rw [List.cons_append, Wp, Wp, ih, Nat.mul_assoc]
theorem dps_append (ps qs : List Pat) : dps (ps ++ qs) = max (dps ps) (dps qs) := by
  induction ps with
  | nil => rw [dps]; simp
  | cons p ps ih => rw [List.cons_append, dps, dps, ih]; omega
theorem dDs_append (ps qs : List Pat) : dDs (ps ++ qs) = max (dDs ps) (dDs qs) := by
  induction ps with
  | nil => rw [dDs]; simp
  | cons p ps ih => rw [List.cons_append, dDs, dDs, ih]; omega
theorem dps_mem {p : Pat} : ∀ {ps : List Pat}, p ∈ ps → dp p ≤ dps ps
  | [], h => by cases h
  | q :: ps, h => by
    rw [dps]
    rcases List.mem_cons.mp h with e | h
    · subst e; omega
    · have := dps_mem h; omega
theorem szs_mem {p : Pat} : ∀ {ps : List Pat}, p ∈ ps → sz p + 1 ≤ szs ps
  | [], h => by cases h
  | q :: ps, h => by
    rw [szs]
    rcases List.mem_cons.mp h with e | h
    · subst e; omega
    · have := szs_mem h; omega
theorem szs_len : ∀ ps : List Pat, ps.length ≤ szs ps
  | [] => by simp
  | p :: ps => by
    have := szs_len ps
    rw [szs, List.length_cons]; omega
theorem dp_pos (p : Pat) : 1 ≤ dp p := by cases p <;> rw [dp] <;> omega
/-! ### the makers -/
theorem szs_parts (p : Pat) : szs (parts p) ≤ sz p + 1 := by
  cases p with
  | chain ps => show szs ps ≤ _; rw [sz]; omega
  | _ => unfold parts; rw [szs, szs]; omega
theorem szs_fl : ∀ ps, szs (fl ps) ≤ szs ps
  | [] => Nat.le_refl _
  | p :: ps => by
    have h1 := szs_parts p
    have h2 := szs_fl ps
    rw [fl_cons, szs_append, szs]; omega
theorem sz_mk (xs : List Pat) : sz (mk xs) ≤ szs xs + 3 := by
  match xs with
  | [] => show sz (.chain []) ≤ _; rw [sz]; omega
  | [x] => show sz x ≤ _; rw [szs, szs]; omega
  | x :: y :: xs => show sz (.chain (x :: y :: xs)) ≤ _; rw [sz]; omega
theorem sz_chain' (ps : List Pat) : sz (chain' ps) ≤ szs ps + 3 := by
  have h1 := sz_mk (fl ps)
  have h2 := szs_fl ps
  unfold chain'; omega
theorem szs_mparts (p : Pat) : szs (mparts p) ≤ sz p + 1 := by
  cases p with
  | mixed ps => show szs ps ≤ _; rw [sz]; omega
  | chain ps =>
    cases ps with
    | nil => show szs [] ≤ _; rw [szs]; omega
    | cons q qs => show szs [.chain (q :: qs)] ≤ _; rw [szs, szs]; omega
  | _ => unfold mparts; rw [szs, szs]; omega
theorem szs_flm : ∀ ps, szs (flm ps) ≤ szs ps
  | [] => Nat.le_refl _
  | p :: ps => by
    have h1 := szs_mparts p
    have h2 := szs_flm ps
    rw [flm_cons, szs_append, szs]; omega
theorem sz_mkm (xs : List Pat) : sz (mkm xs) ≤ szs xs + 3 := by
  match xs with
  | [] => show sz (.chain []) ≤ _; rw [sz]; omega
  | [x] => show sz x ≤ _; rw [szs, szs]; omega
  | x :: y :: xs => show sz (.mixed (x :: y :: xs)) ≤ _; rw [sz]; omega
theorem sz_mixed' (ps : List Pat) : sz (mixed' ps) ≤ szs ps + 3 := by
  have h1 := sz_mkm (flm ps)
  have h2 := szs_flm ps
  unfold mixed'; omega
theorem sz_times' (p : Pat) (lo : Nat) (hi : Option Nat) : sz (times' p lo hi) ≤ sz p + 12 := by
  unfold times'
  split
  · rw [sz, szs]; omega
  · split
    · omega
    · rw [sz]; omega
theorem dps_parts (p : Pat) : dps (parts p) ≤ dp p := by
  cases p with
  | chain ps => show dps ps ≤ _; rw [dp]; omega
  | _ => unfold parts; rw [dps, dps]; omega
theorem dps_fl : ∀ ps, dps (fl ps) ≤ dps ps
  | [] => Nat.le_refl _
  | p :: ps => by
    have h1 := dps_parts p
    have h2 := dps_fl ps
    rw [fl_cons, dps_append, dps]; omega
theorem dp_mk (xs : List Pat) : dp (mk xs) ≤ dps xs + 1 := by
  match xs with
  | [] => show dp (.chain []) ≤ _; rw [dp]; omega
  | [x] => show dp x ≤ _; rw [dps, dps]; omega
  | x :: y :: xs => show dp (.chain (x :: y :: xs)) ≤ _; rw [dp]; omega
theorem dp_chain' (ps : List Pat) : dp (chain' ps) ≤ dps ps + 1 := by
  have h1 := dp_mk (fl ps)
  have h2 := dps_fl ps
  unfold chain'; omega
theorem dps_mparts (p : Pat) : dps (mparts p) ≤ dp p := by
  cases p with
  | mixed ps => show dps ps ≤ _; rw [dp]; omega
  | chain ps =>
    cases ps with
    | nil => show dps [] ≤ _; rw [dps]; omega
    | cons q qs => show dps [.chain (q :: qs)] ≤ _; rw [dps, dps]; omega
  | _ => unfold mparts; rw [dps, dps]; omega
theorem dps_flm : ∀ ps, dps (flm ps) ≤ dps ps
  | [] => Nat.le_refl _
  | p :: ps => by
    have h1 := dps_mparts p
    have h2 := dps_flm ps
    rw [flm_cons, dps_append, dps]; omega
theorem dp_mkm (xs : List Pat) : dp (mkm xs) ≤ dps xs + 1 := by
  match xs with
  | [] => show dp (.chain []) ≤ _; rw [dp, dps]; omega
  | [x] => show dp x ≤ _; rw [dps, dps]; omega
  | x :: y :: xs => show dp (.mixed (x :: y :: xs)) ≤ _; rw [dp]; omega
theorem dp_mixed' (ps : List Pat) : dp (mixed' ps) ≤ dps ps + 1 := by
  have h1 := dp_mkm (flm ps)
  have h2 := dps_flm ps
  unfold mixed'; omega
theorem dp_times' (p : Pat) (lo : Nat) (hi : Option Nat) : dp (times' p lo hi) ≤ dp p + 1 := by
  unfold times'
  split
  · rw [dp, dps]; omega
  · split
    · omega
    · rw [dp]; omega
/-! ### bounds over what is ever left -/
theorem szs_le_sDs {ps : List Pat} (h : ∀ p ∈ ps, sz p ≤ sD p) : szs ps ≤ sDs ps := by
  induction ps with
  | nil => rw [szs, sDs]; omega
  | cons p ps ih =>
    have h1 := h p List.mem_cons_self
    have h2 := ih fun q hq => h q (List.mem_cons_of_mem _ hq)
    rw [szs, sDs]; omega
theorem sDs_mem {p : Pat} : ∀ {ps : List Pat}, p ∈ ps → sD p + 1 ≤ sDs ps
  | [], h => by cases h
  | q :: ps, h => by
    rw [sDs]
    rcases List.mem_cons.mp h with e | h
    · subst e; omega
    · have := sDs_mem h; omega
theorem dDs_mem {p : Pat} : ∀ {ps : List Pat}, p ∈ ps → dD p ≤ dDs ps
  | [], h => by cases h
  | q :: ps, h => by
    rw [dDs]
    rcases List.mem_cons.mp h with e | h
    · subst e; omega
    · have := dDs_mem h; omega
theorem dps_le_dDs {ps : List Pat} (h : ∀ p ∈ ps, dp p ≤ dD p) : dps ps ≤ dDs ps := by
  induction ps with
  | nil => rw [dps, dDs]; omega
  | cons p ps ih =>
    have h1 := h p List.mem_cons_self
    have h2 := ih fun q hq => h q (List.mem_cons_of_mem _ hq)
    rw [dps, dDs]; omega
def Bnd (p : Pat) : Prop := sz p ≤ sD p ∧ dp p ≤ dD p ∧ (∀ q ∈ D p, sz q ≤ sD p ∧ dp q ≤ dD p)
theorem bnd_c {ps : List Pat} (ih : ∀ p ∈ ps, Bnd p) : ∀ q ∈ Dc ps, sz q ≤ sDs ps + 3 ∧ dp q ≤ dDs ps + 1 := by
  induction ps with
  | nil =>
    intro q hq
    rw [Dc] at hq
    rw [List.mem_singleton.mp hq, sz, dp, szs, dps, sDs, dDs]
    omega
  | cons p ps ih2 =>
    intro q hq
    rw [Dc] at hq
    rw [sDs, dDs]
    have hs : szs ps ≤ sDs ps := szs_le_sDs fun x hx => (ih x (List.mem_cons_of_mem _ hx)).1
    have hd : dps ps ≤ dDs ps := dps_le_dDs fun x hx => (ih x (List.mem_cons_of_mem _ hx)).2.1
    rcases List.mem_append.mp hq with hq | hq
    · obtain ⟨d, hdm, e⟩ := List.mem_map.mp hq
      subst e
      obtain ⟨h1, h2⟩ := (ih p List.mem_cons_self).2.2 d hdm
      have h3 := sz_chain' (d :: ps)
      have h4 := dp_chain' (d :: ps)
      rw [szs] at h3
      rw [dps] at h4
      omega
    · have := ih2 (fun x hx => ih x (List.mem_cons_of_mem _ hx)) q hq
      omega
theorem bnd_m {ps : List Pat} (ih : ∀ p ∈ ps, Bnd p) : ∀ ds ∈ Dm ps, szs ds ≤ sDs ps ∧ dps ds ≤ dDs ps := by
  induction ps with
  | nil =>
    intro ds h
    rw [Dm] at h
    rw [List.mem_singleton.mp h, szs, dps]
    omega
  | cons p ps ih2 =>
    intro ds h
    obtain ⟨d, ds', e, hd, h2⟩ := mem_Dm_cons.mp h
    subst e
    have h3 := (ih p List.mem_cons_self).2.2 d hd
    have h4 := ih2 (fun x hx => ih x (List.mem_cons_of_mem _ hx)) ds' h2
    rw [szs, dps, sDs, dDs]
    omega
theorem bnd : ∀ p, Bnd p := by
  refine Pat.ind ?_ ?_ ?_ ?_ ?_
  · intro f
    unfold Bnd
    rw [D, sD, dD, sz, dp]
    refine ⟨by omega, by omega, fun q hq => ?_⟩
    rcases List.mem_cons.mp hq with e | hq
    · rw [e, sz, dp]; omega
    · rw [List.mem_singleton.mp hq, sz, dp, szs, dps]; omega
  · intro ps ih
    unfold Bnd
    rw [D, sD, dD, sz, dp]
    have hs : szs ps ≤ sDs ps := szs_le_sDs fun x hx => (ih x hx).1
    have hd : dps ps ≤ dDs ps := dps_le_dDs fun x hx => (ih x hx).2.1
    exact ⟨by omega, by omega, bnd_c ih⟩
  · intro ps ih
    unfold Bnd
    rw [D, sD, dD, sz, dp]
    have hs : szs ps ≤ sDs ps := szs_le_sDs fun x hx => (ih x hx).1
    have hd : dps ps ≤ dDs ps := dps_le_dDs fun x hx => (ih x hx).2.1
    refine ⟨by omega, by omega, fun q hq => ?_⟩
    rcases List.mem_cons.mp hq with e | hq
    · rw [e, sz, dp]; omega
    · obtain ⟨p, hp, hq2⟩ := mem_Do.mp hq
      have h1 := (ih p hp).2.2 q hq2
      have h2 := sDs_mem hp
      have h3 := dDs_mem hp
      omega
  · intro p lo hi ih
    obtain ⟨h1, h2, h3⟩ := ih
    unfold Bnd
    rw [D, sD, dD, sz, dp]
    refine ⟨by omega, by omega, fun q hq => ?_⟩
    rcases List.mem_cons.mp hq with e | hq
    · rw [e, sz, dp]; omega
    · obtain ⟨⟨l, k⟩, _, hq2⟩ := List.mem_flatMap.mp hq
      obtain ⟨d, hd, e⟩ := List.mem_map.mp hq2
      subst e
      have h4 := h3 d hd
      have h5 := sz_chain' [d, times' p l k]
      have h6 := dp_chain' [d, times' p l k]
      have h7 := sz_times' p l k
      have h8 := dp_times' p l k
      rw [szs, szs, szs] at h5
      rw [dps, dps, dps] at h6
      dsimp only
      omega
  · intro ps ih
    unfold Bnd
    rw [D, sD, dD, sz, dp]
    have hs : szs ps ≤ sDs ps := szs_le_sDs fun x hx => (ih x hx).1
    have hd : dps ps ≤ dDs ps := dps_le_dDs fun x hx => (ih x hx).2.1
    refine ⟨by omega, by omega, fun q hq => ?_⟩
    obtain ⟨ds, hds, e⟩ := List.mem_map.mp hq
    subst e
    have h1 := bnd_m ih ds hds
    have h2 := sz_mixed' ds
    have h3 := dp_mixed' ds
    omega
/-! ### how many -/
theorem cnts_len (lo : Nat) (hi : Option Nat) : (cnts lo hi).length = cn lo hi := by
  cases hi <;> simp [cnts, cn]
theorem flatMap_len {α β : Type} {f : α → List β} {n : Nat} (h : ∀ a, (f a).length = n) : ∀ l : List α, (l.flatMap f).length = l.length * n
  | [] => by simp
  | a :: l => by rw [List.flatMap_cons, List.length_append, h, flatMap_len h l, List.length_cons, Nat.succ_mul]; omega
theorem D_len : ∀ p, (D p).length = W p := by
  refine Pat.ind ?_ ?_ ?_ ?_ ?_
  · intro f; rw [D, W]; rfl
  · intro ps ih
    rw [D, W]
    induction ps with
    | nil => rw [Dc, Ws]; rfl
    | cons p ps ih2 =>
      rw [Dc, Ws, List.length_append, List.length_map, ih p List.mem_cons_self, ih2 fun q hq => ih q (List.mem_cons_of_mem _ hq)]
      omega
  · intro ps ih
    rw [D, W, List.length_cons]
    congr 1
    induction ps with
    | nil => rw [Do, Ws]; rfl
    | cons p ps ih2 => rw [Do, Ws, List.length_append, ih p List.mem_cons_self, ih2 fun q hq => ih q (List.mem_cons_of_mem _ hq)]
  · intro p lo hi ih
    rw [D, W, List.length_cons, flatMap_len (n := W p) (fun a => by rw [List.length_map, ih]), cnts_len]
    omega
  · intro ps ih
    rw [D, W, List.length_map]
    induction ps with
    | nil => rw [Dm, Wp]; rfl
    | cons p ps ih2 =>
      rw [Dm, Wp, flatMap_len (n := Wp ps) (fun a => by rw [List.length_map, ih2 fun q hq => ih q (List.mem_cons_of_mem _ hq)]), ih p List.mem_cons_self]
theorem nodup_len {α : Type} : ∀ {xs ys : List α}, xs.Nodup → (∀ x ∈ xs, x ∈ ys) → xs.length ≤ ys.length
  | [], _, _, _ => by simp
  | x :: xs, ys, h, hs => by
    rw [List.nodup_cons] at h
    obtain ⟨u, v, e⟩ := List.append_of_mem (hs x List.mem_cons_self)
    have h2 : ∀ y ∈ xs, y ∈ u ++ v := fun y hy => by
      have h3 := hs y (List.mem_cons_of_mem _ hy)
      rw [e] at h3
      rcases List.mem_append.mp h3 with h3 | h3
      · exact List.mem_append_left _ h3
      · rcases List.mem_cons.mp h3 with e2 | h3
        · rw [e2] at hy; exact absurd hy h.1
        · exact List.mem_append_right _ h3
    have := nodup_len h.2 h2
    rw [e, List.length_cons, List.length_append, List.length_cons]
    rw [List.length_append] at this
    omega
/-- a state's patterns: of what is ever left of p, each once -/
theorem state_len {p : Pat} {qs : List Pat} (h : qs.Nodup) (hs : ∀ q ∈ qs, q ∈ D p) : qs.length ≤ W p := by
  rw [← D_len]
  exact nodup_len h hs
/-! ### texts, lists of what is left -/
theorem pen_len : ∀ p, Cn p → (penL p).length ≤ sz p := by
  refine Pat.ind ?_ ?_ ?_ ?_ ?_
  · intro f _; rw [penL, sz]; omega
  · intro ps ih h
    have hl : ∀ qs : List Pat, (∀ q ∈ qs, q ∈ ps) → (tailL qs).length ≤ szs qs := by
      intro qs
      induction qs with
      | nil => intro _; rw [tailL]; simp
      | cons q qs ih2 =>
        intro hs
        have h1 := ih q (hs q List.mem_cons_self) (cn_chain h q (hs q List.mem_cons_self))
        have h2 := ih2 fun x hx => hs x (List.mem_cons_of_mem _ hx)
        rw [tailL, szs, List.length_cons, List.length_append]; omega
    rw [penL, sz]
    cases ps with
    | nil => rw [pensL, szs]; simp
    | cons q qs =>
      have h1 := ih q List.mem_cons_self (cn_chain h q List.mem_cons_self)
      have h2 := hl qs fun x hx => List.mem_cons_of_mem _ hx
      rw [pensL, szs]
      simp only [List.length_cons, List.length_append, List.length_nil]
      omega
  · intro ps ih h
    have hl : ∀ qs : List Pat, (∀ q ∈ qs, q ∈ ps) → (tailL qs).length ≤ szs qs := by
      intro qs
      induction qs with
      | nil => intro _; rw [tailL]; simp
      | cons q qs ih2 =>
        intro hs
        have h1 := ih q (hs q List.mem_cons_self) (cn_choice h q (hs q List.mem_cons_self))
        have h2 := ih2 fun x hx => hs x (List.mem_cons_of_mem _ hx)
        rw [tailL, szs, List.length_cons, List.length_append]; omega
    rw [penL, sz]
    cases ps with
    | nil => rw [pensL, szs]; simp
    | cons q qs =>
      have h1 := ih q List.mem_cons_self (cn_choice h q List.mem_cons_self)
      have h2 := hl qs fun x hx => List.mem_cons_of_mem _ hx
      rw [pensL, szs]
      simp only [List.length_cons, List.length_append, List.length_nil]
      omega
  · intro p lo hi ih h
    have h1 := ih (cn_times h)
    rw [penL, sz]
    have h2 : (hiL hi).length ≤ 2 := by cases hi <;> simp [hiL, numL]
    simp only [List.length_cons, List.length_append, List.length_nil, numL]
    omega
  · intro ps ih h
    have hl : ∀ qs : List Pat, (∀ q ∈ qs, q ∈ ps) → (tailL qs).length ≤ szs qs := by
      intro qs
      induction qs with
      | nil => intro _; rw [tailL]; simp
      | cons q qs ih2 =>
        intro hs
        have h1 := ih q (hs q List.mem_cons_self) (cn_mixed h q (hs q List.mem_cons_self))
        have h2 := ih2 fun x hx => hs x (List.mem_cons_of_mem _ hx)
        rw [tailL, szs, List.length_cons, List.length_append]; omega
    rw [penL, sz]
    cases ps with
    | nil => rw [pensL, szs]; simp
    | cons q qs =>
      have h1 := ih q List.mem_cons_self (cn_mixed h q List.mem_cons_self)
      have h2 := hl qs fun x hx => List.mem_cons_of_mem _ hx
      rw [pensL, szs]
      simp only [List.length_cons, List.length_append, List.length_nil]
      omega
theorem left_len : ∀ p, ∀ c, (left c p).length ≤ sz p := by
  refine Pat.ind ?_ ?_ ?_ ?_ ?_
  · intro f c
    rw [left, sz]
    split <;> simp
  · intro ps ih c
    rw [left, sz]
    refine Nat.le_trans (once_len _) ?_
    have : (leftChain c ps).length ≤ szs ps := by
      induction ps with
      | nil => rw [leftChain]; simp
      | cons p ps ih2 =>
        have h1 := ih p List.mem_cons_self c
        have h2 := ih2 fun q hq => ih q (List.mem_cons_of_mem _ hq)
        rw [leftChain, szs, List.length_append, List.length_map]
        split
        · omega
        · simp; omega
    omega
  · intro ps ih c
    rw [left, sz]
    refine Nat.le_trans (once_len _) ?_
    have : (leftAll c ps).length ≤ szs ps := by
      induction ps with
      | nil => rw [leftAll]; simp
      | cons p ps ih2 =>
        have h1 := ih p List.mem_cons_self c
        have h2 := ih2 fun q hq => ih q (List.mem_cons_of_mem _ hq)
        rw [leftAll, szs, List.length_append]
        omega
    omega
  · intro p lo hi ih c
    have h1 := ih c
    rw [left, sz]
    refine Nat.le_trans (once_len _) ?_
    rw [List.length_map]
    omega
  · intro ps ih c
    rw [left, sz]
    refine Nat.le_trans (once_len _) ?_
    have : ∀ a, (leftMix c a ps).length ≤ szs ps := by
      induction ps with
      | nil => intro a; rw [leftMix]; simp
      | cons p ps ih2 =>
        intro a
        have h1 := ih p List.mem_cons_self c
        have h2 := ih2 (fun q hq => ih q (List.mem_cons_of_mem _ hq)) (a ++ [p])
        rw [leftMix, szs, List.length_append, List.length_map]
        omega
    have := this []
    omega
end KM
end
section
set_option Elab.async false
set_option linter.all false
/-! ## Measures of what is left of what is left -/
namespace KM
open PySem
open Classical
mutual
def eD : Pat → Nat
  | .one f => f.cps.toList.length + 3
  | .chain ps => eDs ps + 3
  | .choice ps => eDs ps + 3
  | .times p _ _ => eD p + sD p + sz p + 22
  | .mixed ps => eDs ps + 3
def eDs : List Pat → Nat
  | [] => 0
  | p :: ps => eD p + 1 + eDs ps
end
mutual
def fD : Pat → Nat
  | .one _ => 1
  | .chain ps => fDs ps + 1
  | .choice ps => fDs ps + 1
  | .times p _ _ => fD p + 3
  | .mixed ps => fDs ps + 1
def fDs : List Pat → Nat
  | [] => 0
  | p :: ps => max (fD p) (fDs ps)
end
/-! ### the makers -/
theorem sDs_parts (p : Pat) : sDs (parts p) ≤ sD p + 1 := by
  cases p with
  | chain ps => show sDs ps ≤ _; rw [sD]; omega
  | _ => unfold parts; rw [sDs, sDs]; omega
theorem sDs_fl : ∀ ps, sDs (fl ps) ≤ sDs ps
  | [] => Nat.le_refl _
  | p :: ps => by
    have h1 := sDs_parts p
    have h2 := sDs_fl ps
    rw [fl_cons, sDs_append, sDs]; omega
theorem sD_mk (xs : List Pat) : sD (mk xs) ≤ sDs xs + 3 := by
  match xs with
  | [] => show sD (.chain []) ≤ _; rw [sD]; omega
  | [x] => show sD x ≤ _; rw [sDs, sDs]; omega
  | x :: y :: xs => show sD (.chain (x :: y :: xs)) ≤ _; rw [sD]; omega
theorem sD_chain' (ps : List Pat) : sD (chain' ps) ≤ sDs ps + 3 := by
  have h1 := sD_mk (fl ps)
  have h2 := sDs_fl ps
  unfold chain'; omega
theorem sDs_mparts (p : Pat) : sDs (mparts p) ≤ sD p + 1 := by
  cases p with
  | mixed ps => show sDs ps ≤ _; rw [sD]; omega
  | chain ps =>
    cases ps with
    | nil => show sDs [] ≤ _; rw [sDs]; omega
    | cons q qs => show sDs [.chain (q :: qs)] ≤ _; rw [sDs, sDs]; omega
  | _ => unfold mparts; rw [sDs, sDs]; omega
theorem sDs_flm : ∀ ps, sDs (flm ps) ≤ sDs ps
  | [] => Nat.le_refl _
  | p :: ps => by
    have h1 := sDs_mparts p
    have h2 := sDs_flm ps
    rw [flm_cons, sDs_append, sDs]; omega
theorem sD_mkm (xs : List Pat) : sD (mkm xs) ≤ sDs xs + 3 := by
  match xs with
  | [] => show sD (.chain []) ≤ _; rw [sD]; omega
  | [x] => show sD x ≤ _; rw [sDs, sDs]; omega
  | x :: y :: xs => show sD (.mixed (x :: y :: xs)) ≤ _; rw [sD]; omega
theorem sD_mixed' (ps : List Pat) : sD (mixed' ps) ≤ sDs ps + 3 := by
  have h1 := sD_mkm (flm ps)
  have h2 := sDs_flm ps
  unfold mixed'; omega
theorem sD_times' (p : Pat) (lo : Nat) (hi : Option Nat) : sD (times' p lo hi) ≤ sD p + sz p + 17 := by
  unfold times'
  split
  · rw [sD, sDs]; omega
  · split
    · omega
    · rw [sD]; omega
theorem dDs_parts (p : Pat) : dDs (parts p) ≤ dD p := by
  cases p with
  | chain ps => show dDs ps ≤ _; rw [dD]; omega
  | _ => unfold parts; rw [dDs, dDs]; omega
theorem dDs_fl : ∀ ps, dDs (fl ps) ≤ dDs ps
  | [] => Nat.le_refl _
  | p :: ps => by
    have h1 := dDs_parts p
    have h2 := dDs_fl ps
    rw [fl_cons, dDs_append, dDs]; omega
theorem dD_mk (xs : List Pat) : dD (mk xs) ≤ dDs xs + 1 := by
  match xs with
  | [] => show dD (.chain []) ≤ _; rw [dD]; omega
  | [x] => show dD x ≤ _; rw [dDs, dDs]; omega
  | x :: y :: xs => show dD (.chain (x :: y :: xs)) ≤ _; rw [dD]; omega
theorem dD_chain' (ps : List Pat) : dD (chain' ps) ≤ dDs ps + 1 := by
  have h1 := dD_mk (fl ps)
  have h2 := dDs_fl ps
  unfold chain'; omega
theorem dDs_mparts (p : Pat) : dDs (mparts p) ≤ dD p := by
  cases p with
  | mixed ps => show dDs ps ≤ _; rw [dD]; omega
  | chain ps =>
    cases ps with
    | nil => show dDs [] ≤ _; rw [dDs]; omega
    | cons q qs => show dDs [.chain (q :: qs)] ≤ _; rw [dDs, dDs]; omega
  | _ => unfold mparts; rw [dDs, dDs]; omega
theorem dDs_flm : ∀ ps, dDs (flm ps) ≤ dDs ps
  | [] => Nat.le_refl _
  | p :: ps => by
    have h1 := dDs_mparts p
    have h2 := dDs_flm ps
    rw [flm_cons, dDs_append, dDs]; omega
theorem dD_mkm (xs : List Pat) : dD (mkm xs) ≤ dDs xs + 1 := by
  match xs with
  | [] => show dD (.chain []) ≤ _; rw [dD, dDs]; omega
  | [x] => show dD x ≤ _; rw [dDs, dDs]; omega
  | x :: y :: xs => show dD (.mixed (x :: y :: xs)) ≤ _; rw [dD]; omega
theorem dD_mixed' (ps : List Pat) : dD (mixed' ps) ≤ dDs ps + 1 := by
  have h1 := dD_mkm (flm ps)
  have h2 := dDs_flm ps
  unfold mixed'; omega
theorem dD_times' (p : Pat) (lo : Nat) (hi : Option Nat) : dD (times' p lo hi) ≤ dD p + 2 := by
  unfold times'
  split
  · rw [dD, dDs]; omega
  · split
    · omega
    · rw [dD]; omega
/-! ### bounds over what is ever left -/
theorem sDs_le_eDs {ps : List Pat} (h : ∀ p ∈ ps, sD p ≤ eD p) : sDs ps ≤ eDs ps := by
  induction ps with
  | nil => rw [sDs, eDs]; omega
  | cons p ps ih =>
    have h1 := h p List.mem_cons_self
    have h2 := ih fun q hq => h q (List.mem_cons_of_mem _ hq)
    rw [sDs, eDs]; omega
theorem eDs_mem {p : Pat} : ∀ {ps : List Pat}, p ∈ ps → eD p + 1 ≤ eDs ps
  | [], h => by cases h
  | q :: ps, h => by
    rw [eDs]
    rcases List.mem_cons.mp h with e | h
    · subst e; omega
    · have := eDs_mem h; omega
theorem fDs_mem {p : Pat} : ∀ {ps : List Pat}, p ∈ ps → fD p ≤ fDs ps
  | [], h => by cases h
  | q :: ps, h => by
    rw [fDs]
    rcases List.mem_cons.mp h with e | h
    · subst e; omega
    · have := fDs_mem h; omega
theorem dDs_le_fDs {ps : List Pat} (h : ∀ p ∈ ps, dD p ≤ fD p) : dDs ps ≤ fDs ps := by
  induction ps with
  | nil => rw [dDs, fDs]; omega
  | cons p ps ih =>
    have h1 := h p List.mem_cons_self
    have h2 := ih fun q hq => h q (List.mem_cons_of_mem _ hq)
    rw [dDs, fDs]; omega
def Bnd2 (p : Pat) : Prop := sD p ≤ eD p ∧ dD p ≤ fD p ∧ (∀ q ∈ D p, sD q ≤ eD p ∧ dD q ≤ fD p)
theorem bnd2_c {ps : List Pat} (ih : ∀ p ∈ ps, Bnd2 p) : ∀ q ∈ Dc ps, sD q ≤ eDs ps + 3 ∧ dD q ≤ fDs ps + 1 := by
  induction ps with
  | nil =>
    intro q hq
    rw [Dc] at hq
    rw [List.mem_singleton.mp hq, sD, dD, sDs, dDs, eDs, fDs]
    omega
  | cons p ps ih2 =>
    intro q hq
    rw [Dc] at hq
    rw [eDs, fDs]
    have hs : sDs ps ≤ eDs ps := sDs_le_eDs fun x hx => (ih x (List.mem_cons_of_mem _ hx)).1
    have hd : dDs ps ≤ fDs ps := dDs_le_fDs fun x hx => (ih x (List.mem_cons_of_mem _ hx)).2.1
    rcases List.mem_append.mp hq with hq | hq
    · obtain ⟨d, hdm, e⟩ := List.mem_map.mp hq
      subst e
      obtain ⟨h1, h2⟩ := (ih p List.mem_cons_self).2.2 d hdm
      have h3 := sD_chain' (d :: ps)
      have h4 := dD_chain' (d :: ps)
      rw [sDs] at h3
      rw [dDs] at h4
      omega
    · have := ih2 (fun x hx => ih x (List.mem_cons_of_mem _ hx)) q hq
      omega
theorem bnd2_m {ps : List Pat} (ih : ∀ p ∈ ps, Bnd2 p) : ∀ ds ∈ Dm ps, sDs ds ≤ eDs ps ∧ dDs ds ≤ fDs ps := by
  induction ps with
  | nil =>
    intro ds h
    rw [Dm] at h
    rw [List.mem_singleton.mp h, sDs, dDs]
    omega
  | cons p ps ih2 =>
    intro ds h
    obtain ⟨d, ds', e, hd, h2⟩ := mem_Dm_cons.mp h
    subst e
    have h3 := (ih p List.mem_cons_self).2.2 d hd
    have h4 := ih2 (fun x hx => ih x (List.mem_cons_of_mem _ hx)) ds' h2
    rw [sDs, dDs, eDs, fDs]
    omega
theorem bnd2 : ∀ p, Bnd2 p := by
  refine Pat.ind ?_ ?_ ?_ ?_ ?_
  · intro f
    unfold Bnd2
    rw [D, eD, fD, sD, dD]
    refine ⟨by omega, by omega, fun q hq => ?_⟩
    rcases List.mem_cons.mp hq with e | hq
    · rw [e, sD, dD]; omega
    · rw [List.mem_singleton.mp hq, sD, dD, sDs, dDs]; omega
  · intro ps ih
    unfold Bnd2
    rw [D, eD, fD, sD, dD]
    have hs : sDs ps ≤ eDs ps := sDs_le_eDs fun x hx => (ih x hx).1
    have hd : dDs ps ≤ fDs ps := dDs_le_fDs fun x hx => (ih x hx).2.1
    exact ⟨by omega, by omega, bnd2_c ih⟩
  · intro ps ih
    unfold Bnd2
    rw [D, eD, fD, sD, dD]
    have hs : sDs ps ≤ eDs ps := sDs_le_eDs fun x hx => (ih x hx).1
    have hd : dDs ps ≤ fDs ps := dDs_le_fDs fun x hx => (ih x hx).2.1
    refine ⟨by omega, by omega, fun q hq => ?_⟩
    rcases List.mem_cons.mp hq with e | hq
    · rw [e, sD, dD]; omega
    · obtain ⟨p, hp, hq2⟩ := mem_Do.mp hq
      have h1 := (ih p hp).2.2 q hq2
      have h2 := eDs_mem hp
      have h3 := fDs_mem hp
      omega
  · intro p lo hi ih
    obtain ⟨h1, h2, h3⟩ := ih
    unfold Bnd2
    rw [D, eD, fD, sD, dD]
    refine ⟨by omega, by omega, fun q hq => ?_⟩
    rcases List.mem_cons.mp hq with e | hq
    · rw [e, sD, dD]; omega
    · obtain ⟨⟨l, k⟩, _, hq2⟩ := List.mem_flatMap.mp hq
      obtain ⟨d, hd, e⟩ := List.mem_map.mp hq2
      subst e
      have h4 := h3 d hd
      have h5 := sD_chain' [d, times' p l k]
      have h6 := dD_chain' [d, times' p l k]
      have h7 := sD_times' p l k
      have h8 := dD_times' p l k
      rw [sDs, sDs, sDs] at h5
      rw [dDs, dDs, dDs] at h6
      dsimp only
      omega
  · intro ps ih
    unfold Bnd2
    rw [D, eD, fD, sD, dD]
    have hs : sDs ps ≤ eDs ps := sDs_le_eDs fun x hx => (ih x hx).1
    have hd : dDs ps ≤ fDs ps := dDs_le_fDs fun x hx => (ih x hx).2.1
    refine ⟨by omega, by omega, fun q hq => ?_⟩
    obtain ⟨ds, hds, e⟩ := List.mem_map.mp hq
    subst e
    have h1 := bnd2_m ih ds hds
    have h2 := sD_mixed' ds
    have h3 := dD_mixed' ds
    omega
end KM
end
section
set_option Elab.async false
set_option linter.all false
set_option maxRecDepth 100000
set_option maxHeartbeats 4000000
/-! ## Dicts whose keys are tuples of tuples of texts -/
namespace KN
open PySem PySem.Spec PyProof.Rows L2
abbrev NKey : Type := List (List Str)
section
variable {prog : Program} {w : World}
abbrev inK (prog : Program) (w : World) : HeapKind prog w (List Str) := tupleKind (strKind prog w)
inductive Inner (prog : Program) (w : World) (h : Heap) : NKey → List Value → Prop
  | nil : Inner prog w h [] []
  | cons {k : List Str} {b : Addr} {ks : NKey} {vs : List Value} : (inK prog w).is h k b → Inner prog w h ks vs → Inner prog w h (k :: ks) (.ref b :: vs)
def IsN (prog : Program) (w : World) (h : Heap) (ks : NKey) (a : Addr) : Prop := ∃ o items n, h.get? a = some o ∧ o.cls = .type "tuple" ∧ o.data = .seq items n ∧ Inner prog w h ks items.toList
theorem Inner.inj {h : Heap} {x y : NKey} {vs : List Value} (hx : Inner prog w h x vs) (hy : Inner prog w h y vs) : x = y := by
  induction hx generalizing y with
  | nil => cases hy; rfl
  | cons h1 _ ih =>
    cases hy with
    | cons h2 t2 => rw [(inK prog w).inj h1 h2, ih t2]
theorem IsN.inj {h : Heap} {a : Addr} {x y : NKey} (hx : IsN prog w h x a) (hy : IsN prog w h y a) : x = y := by
  obtain ⟨o, items, n, ho, _, hd, hi⟩ := hx
  obtain ⟨o', items', n', ho', _, hd', hi'⟩ := hy
  obtain rfl : o = o' := Option.some.inj (ho.symm.trans ho')
  rw [hd] at hd'
  injection hd' with h1 _
  subst h1
  exact hi.inj hi'
theorem Inner.keeps {h h' : Heap} {ks : NKey} {vs : List Value} {d : Addr} {o : Obj} {es ep} (x : Inner prog w h ks vs) (ho : h.get? d = some o) (hd : o.data = .dict es ep) (hs : Heap.SameBut d h h') : Inner prog w h' ks vs := by
  induction x with
  | nil => exact .nil
  | cons h1 _ ih => exact .cons ((inK prog w).keeps h1 ho hd hs) ih
theorem IsN.keeps {h h' : Heap} {ks : NKey} {a d : Addr} {o : Obj} {es ep} (x : IsN prog w h ks a) (ho : h.get? d = some o) (hd : o.data = .dict es ep) (hs : Heap.SameBut d h h') : IsN prog w h' ks a := by
  obtain ⟨o', items, n, ho', hc, hd', hi⟩ := x
  have hne : a ≠ d := by
    rintro rfl
    obtain rfl : o' = o := Option.some.inj (ho'.symm.trans ho)
    rw [hd] at hd'
    exact nomatch hd'
  exact ⟨o', items, n, (hs.2 a hne).trans ho', hc, hd', hi.keeps ho hd hs⟩
theorem IsN.typeIs {s : Shared} {ks : NKey} {a : Addr} (x : IsN prog w s.heap ks a) : s.TypeIs (.ref a) "tuple" := let ⟨o, _, _, ho, hc, _⟩ := x; ⟨o, ho, hc⟩
def drawsN : NKey → Nat
  | [] => 0
  | k :: ks => (k.length + 1) + drawsN ks
theorem drawsN_append (x y : NKey) : drawsN (x ++ y) = drawsN x + drawsN y := by
  induction x with
  | nil => simp [drawsN]
  | cons k ks ih => rw [List.cons_append, drawsN, drawsN, ih]; omega
def hashN (prog : Program) (w : World) (ks : NKey) : Int := reduceHash (Builtin.Tuple.tupleHashOf (ks.map (inK prog w).hash))
variable {A : Around} {E : Value → Shared → Prop} {s : Shared}
theorem hash_n {ks : NKey} {a : Addr} {Q : Int → Shared → Prop} (hu : A.units + 1 < cLine) (hk : IsN prog w s.heap ks a) (h : Q (hashN prog w ks) { s with toks := s.toks + (drawsN ks + 1) }) :
    wpAny (model prog w) A (pyHash (.ref a)) Q E s := by
  have hT := hk.typeIs
  obtain ⟨o, items, n, ho, _, hd, hi⟩ := hk
  unfold pyHash
  first | unfold pyHashByItsType | skip
  first | refine wpAny_bind (wpAny_cRoomFor_or (.inr (Nat.lt_of_succ_lt hu)) ?_) | skip
  refine wpAny_bind (wpAny_specialOf hT F.slot_tuple_hash.lookup ?_)
  show wpAny _ _ (if (some (Value.builtin "tuple.__hash__") == some Value.none) = true then _ else _) Q E s
  rw [if_neg (by rw [beq_builtin_none]; exact Bool.false_ne_true)]
  refine wpAny_bind (wpAny_specialOf hT F.slot_tuple_hash.lookup ?_)
  show wpAny _ _ (callSpecialIfBoundUnlessNone? (.ref a) "__hash__" _ >>= _) Q E s
  refine wpAny_bind (wpAny_callSpecialIfBoundUnlessNone?_slot hT F.slot_tuple_hash (wpAny_call_entry F.slot_tuple_hash hT F.entry_tuple_hash ?_ (F.args_tuple_hash_1 _)))
  show wpAny _ _ (Builtin.Tuple.tupleItemsOf (.ref a) >>= _) _ _ s
  refine wpAny_bind (wpAny_tupleItemsOf ho hd ?_)
  refine wpAny_bind ?_
  rw [← Array.forIn_toList]
  refine wpAny_forIn_list _
    (fun rest (b : Array Int) s' => ∃ done left, ks = done ++ left ∧ Inner prog w s.heap left rest ∧ b.toList = done.map (inK prog w).hash ∧ s' = { s with toks := s.toks + drawsN done })
    _ ?_ ?_ _ _ ⟨[], ks, rfl, hi, rfl, rfl⟩
  · rintro x rest b s' ⟨done, left, rfl, hl, hb, rfl⟩
    cases hl with
    | @cons k c ks' _ h1 hl' =>
      have hh : drawsN (done ++ [k]) = drawsN done + (k.length + 1) := by rw [drawsN_append]; simp [drawsN]
      refine wpAny_bind ((inK prog w).pyHash (s := { s with toks := s.toks + drawsN done }) (k := k) hu h1 ?_)
      first
        | exact wpAny_pure ⟨done ++ [k], ks', by simp, hl', by simp [hb], by rw [hh, ← Nat.add_assoc]; rfl⟩
        | exact wpAny_bind (wpAny_pure (wpAny_pure ⟨done ++ [k], ks', by simp, hl', by simp [hb], by rw [hh, ← Nat.add_assoc]; rfl⟩))
  · rintro b s' ⟨done, left, rfl, hl, hb, rfl⟩
    cases hl
    rw [List.append_nil] at h
    show wpAny _ _ (retInt (Builtin.Tuple.tupleHashOf b.toList)) _ _ _
    rw [hb]
    refine wpAny_ret_mkInt ?_
    show wpAny _ _ (if (decide (-(2 : Int) ^ 63 ≤ Builtin.Tuple.tupleHashOf (done.map (inK prog w).hash)) && decide (Builtin.Tuple.tupleHashOf (done.map (inK prog w).hash) < 2 ^ 63)) = true then _ else _) Q E _
    unfold hashN reduceHash at h
    by_cases hr : (decide (-(2 : Int) ^ 63 ≤ Builtin.Tuple.tupleHashOf (done.map (inK prog w).hash)) && decide (Builtin.Tuple.tupleHashOf (done.map (inK prog w).hash) < 2 ^ 63)) = true
    · rw [if_pos hr]
      rw [if_pos hr] at h
      exact wpAny_pure (by simpa [Nat.add_assoc] using h)
    · rw [if_neg hr]
      rw [if_neg hr] at h
      exact wpAny_bind (wpAny_rule (wpAny_pure (by simpa [Nat.add_assoc] using h)))
theorem Inner.length {h : Heap} {x : NKey} {vs : List Value} (hx : Inner prog w h x vs) : x.length = vs.length := by
  induction hx with
  | nil => rfl
  | cons _ _ ih => simp [ih]
theorem eq_n_tree {x y : NKey} {a b : Addr} {P : Fin → Shared → Prop} (hu : A.units < cLine) (hx : IsN prog w s.heap x a) (hy : IsN prog w s.heap y b) (h : P (.done (.ret (.bool (decide (x = y))))) s) :
    wpAny (model prog w) A (Builtin.«tuple.__eq__» ⟨[.ref a, .ref b], []⟩) P E s := by
  have hTb := hy.typeIs
  obtain ⟨oa, xs, na, hoa, _, hda, hia⟩ := hx
  obtain ⟨ob, ys, nb, hob, _, hdb, hib⟩ := hy
  show wpAny _ _ (isInstance (.ref b) (.type "tuple") >>= _) _ _ s
  refine wpAny_bind (wpAny_isInstance hTb isSubtype_tuple_tuple ?_)
  simp only [Bool.not_true, Bool.false_eq_true, if_false]
  refine wpAny_bind (wpAny_tupleItemsOf hoa hda ?_)
  refine wpAny_bind (wpAny_tupleItemsOf hob hdb ?_)
  refine wpAny_bind ?_
  refine wpAny_forIn_list _
    (fun rest r s' => r.1 = none ∧ s' = s ∧ ∃ x' y' xs' ys', rest = List.zip xs' ys' ∧ Inner prog w s.heap x' xs' ∧ Inner prog w s.heap y' ys' ∧ decide (x' = y') = decide (x = y) ∧ (xs'.length == ys'.length) = (xs.size == ys.size))
    _ ?_ ?_ _ _ ⟨rfl, rfl, x, y, xs.toList, ys.toList, rfl, hia, hib, rfl, by simp⟩
  · rintro ⟨u, v⟩ rest r s' ⟨hr, rfl, x', y', xs', ys', hz, hx', hy', hdec, hlen⟩
    cases hx' with
    | nil => simp at hz
    | @cons k1 u' x'' xs'' h1 hx'' =>
      cases hy' with
      | nil => simp at hz
      | @cons k2 v' y'' ys'' h2 hy'' =>
        simp only [List.zip_cons_cons, List.cons.injEq, Prod.mk.injEq] at hz
        obtain ⟨⟨rfl, rfl⟩, rfl⟩ := hz
        refine wpAny_bind ((inK prog w).eqBool (x := k1) (y := k2) hu h1 h2 ?_)
        by_cases hk : k1 = k2
        · subst hk
          rw [decide_eq_true rfl]
          simp only [Bool.not_true, Bool.false_eq_true, if_false]
          refine wpAny_pure ⟨rfl, rfl, x'', y'', xs'', ys'', rfl, hx'', hy'', ?_, by simpa using hlen⟩
          rw [← hdec]
          by_cases hxy : x'' = y''
          · simp [hxy]
          · simp [hxy]
        · rw [decide_eq_false hk]
          simp only [Bool.not_false, if_true]
          have hf : decide (x = y) = false := by rw [← hdec]; simp [hk]
          rw [hf] at h
          exact wpAny_bind (wpAny_pure (wpAny_pure (wpAny_pure h)))
  · rintro ⟨r1, r2⟩ s' ⟨hr, rfl, x', y', xs', ys', hz, hx', hy', hdec, hlen⟩
    simp only at hr
    subst hr
    refine wpAny_pure ?_
    have hfin : (xs.size == ys.size) = decide (x = y) := by
      rw [← hdec, ← hlen]
      cases hx' with
      | nil =>
        cases hy' with
        | nil => simp
        | cons _ _ => simp
      | cons _ _ =>
        cases hy' with
        | nil => simp
        | cons _ _ => simp at hz
    show P (.done (.ret (.bool (xs.size == ys.size)))) s'
    rw [hfin]
    exact h
theorem eq_n {x y : NKey} {a b : Addr} {Q : Bool → Shared → Prop} (hu : A.units + 1 < cLine) (hx : IsN prog w s.heap x a) (hy : IsN prog w s.heap y b) (h : Q (decide (x = y)) s) :
    wpAny (model prog w) A (eqBool (.ref a) (.ref b)) Q E s := by
  unfold eqBool
  try with_reducible refine wpAny_holding ?_
  show wpAny _ _ (if (Value.ref a == Value.ref b) = true then _ else _) Q E s
  by_cases hab : (Value.ref a == Value.ref b) = true
  · rw [if_pos hab]
    have e : a = b := by have := eq_of_beq hab; injection this
    subst e
    obtain rfl := hx.inj hy
    exact wpAny_bind (wpAny_rule (wpAny_pure (by simpa using h)))
  · rw [if_neg hab]
    exact wpAny_bind (wpAny_richCompare_same_room (op := .Eq) hx.typeIs hy.typeIs F.slot_tuple_eq
      (wpAny_call_entry F.slot_tuple_eq hx.typeIs F.entry_tuple_eq (eq_n_tree hu hx hy ⟨_, rfl, (fun e => nomatch e), wpAny_truthy_bool h⟩) (F.args_tuple_eq_2 _ _)) (Nat.lt_of_succ_lt hu))
/-- one level: a tuple of flat things -/
theorem quiet_1 {ks : List Str} {a : Addr} {m : Nat} {Q : Bool → Shared → Prop} (hk : (inK prog w).is s.heap ks a) (h : Q true s) : wpAny (model prog w) A (eqIsQuiet (m + 1) (.ref a)) Q E s := by
  have hk : IsTupleKey (strKind prog w) s.heap ks a := hk
  have hT := hk.typeIs
  obtain ⟨o, items, n, ho, _, hd, hi⟩ := hk
  unfold eqIsQuiet
  refine wpAny_bind (wpAny_specialOf hT F.slot_tuple_eq.lookup ?_)
  show wpAny _ _ (isInstance (.ref a) (.type "tuple") >>= _) _ _ s
  refine wpAny_bind (wpAny_isInstance hT isSubtype_tuple_tuple ?_)
  simp only [Bool.not_true, Bool.false_eq_true, if_false]
  refine wpAny_bind (wpAny_seqItems ho hd ?_)
  refine wpAny_bind ?_
  show wpAny _ _ (forIn items _ _) _ _ s
  rw [← Array.forIn_toList]
  refine wpAny_forIn_list _ (fun rest r s' => r.1 = none ∧ s' = s ∧ ∀ v ∈ rest, carriedByValue v = true) _ ?_ ?_ _ _ ⟨rfl, rfl, hi.byValue⟩
  · rintro v rest r s' ⟨hr, rfl, hall⟩
    rw [eqIsQuiet_byValue _ (hall v List.mem_cons_self)]
    refine wpAny_bind (wpAny_pure ?_)
    simp only [Bool.not_true, Bool.false_eq_true, if_false]
    exact wpAny_pure ⟨rfl, rfl, fun u hu' => hall u (List.mem_cons_of_mem _ hu')⟩
  · rintro ⟨r1, r2⟩ s' ⟨hr, rfl, _⟩
    simp only at hr
    subst hr
    exact wpAny_pure h
theorem quiet_n {ks : NKey} {a : Addr} {Q : Bool → Shared → Prop} (hk : IsN prog w s.heap ks a) (h : Q true s) : wpAny (model prog w) A (eqIsQuiet 8 (.ref a)) Q E s := by
  have hT := hk.typeIs
  obtain ⟨o, items, n, ho, _, hd, hi⟩ := hk
  unfold eqIsQuiet
  refine wpAny_bind (wpAny_specialOf hT F.slot_tuple_eq.lookup ?_)
  show wpAny _ _ (isInstance (.ref a) (.type "tuple") >>= _) _ _ s
  refine wpAny_bind (wpAny_isInstance hT isSubtype_tuple_tuple ?_)
  simp only [Bool.not_true, Bool.false_eq_true, if_false]
  refine wpAny_bind (wpAny_seqItems ho hd ?_)
  refine wpAny_bind ?_
  show wpAny _ _ (forIn items _ _) _ _ s
  rw [← Array.forIn_toList]
  refine wpAny_forIn_list _ (fun rest r s' => r.1 = none ∧ s' = s ∧ ∃ x', Inner prog w s.heap x' rest) _ ?_ ?_ _ _ ⟨rfl, rfl, ks, hi⟩
  · rintro v rest r s' ⟨hr, rfl, x', hx⟩
    cases hx with
    | cons h1 h2 =>
      refine wpAny_bind (quiet_1 h1 ?_)
      simp only [Bool.not_true, Bool.false_eq_true, if_false]
      exact wpAny_pure ⟨rfl, rfl, _, h2⟩
  · rintro ⟨r1, r2⟩ s' ⟨hr, rfl, _⟩
    simp only at hr
    subst hr
    exact wpAny_pure h
def nestKind (prog : Program) (w : World) : HeapKind prog w NKey where
  is := IsN prog w
  hash := hashN prog w
  draws := fun ks => drawsN ks + 1
  room := fun A => A.units + 1 < cLine
  inj := fun hx hy => hx.inj hy
  keeps := fun x ho hd hs => x.keeps ho hd hs
  pyHash := fun hu hk h => hash_n hu hk h
  eqBool := fun hu hx hy h => eq_n hu hx hy h
  quiet := fun hk h => quiet_n hk h
end

/-! ### over the layer -/
/-- at a stands a tuple of tuples of texts -/
def KeyAt (H : Hp) (k : NKey) (a : Addr) : Prop := ∃ bs : List Addr, H a = some (.tup (bs.map V.ref)) ∧ Paired (fun (ks : List Str) b => H b = some (.tup (ks.map V.str))) k bs
abbrev NEnt : Type := NKey × Addr × V
def NRel : List NEnt → List (NKey × Addr × Value) → Prop := Paired fun p q => p.1 = q.1 ∧ p.2.1 = q.2.1 ∧ RelV p.2.2 q.2.2
def NAt (P : Program) (w : World) (h : Heap) (a : Addr) (kvs : List NEnt) : Prop := (a == sysModules) = false ∧ kvs.length ≤ sizeLine ∧ ∃ xs, NRel kvs xs ∧
  ∃ o es ep, h.get? a = some o ∧ o.ExactDict ∧ o.data = .dict es ep ∧ es.toList = xs.map (entryOfKey (nestKind P w)) ∧ (xs.map (·.1)).Nodup
def ND (P : Program) (w : World) (a : Addr) (kvs : List NEnt) : HO := .ext fun h => NAt P w h a kvs
/-- at a stands a dict with these keys -/
def NDict (P : Program) (w : World) (H : Hp) (a : Addr) (kvs : List (NKey × V)) : Prop := ∃ es : List NEnt, H a = some (ND P w a es) ∧ (∀ e ∈ es, KeyAt H e.1 e.2.1) ∧ kvs = es.map fun e => (e.1, e.2.2)
theorem nat_at {P : Program} {w : World} {h h' : Heap} {a : Addr} {kvs : List NEnt} (x : NAt P w h a kvs) (k : ∀ o, h.get? a = some o → h'.get? a = some o) : NAt P w h' a kvs := by
  obtain ⟨hd, hl, xs, r, o, es, ep, ho, q⟩ := x
  exact ⟨hd, hl, xs, r, o, es, ep, k o ho, q⟩
theorem nd_ok {P : Program} {w : World} {H : Hp} {h : Heap} {a : Addr} {kvs : List NEnt} (x : NAt P w h a kvs) : ObjOk P w H h a (ND P w a kvs) := by
  have ⟨_, _, _, _, o, _, _, ho, _⟩ := x
  exact ⟨x, ⟨o, ho⟩, fun h1 h2 p k => nat_at p k⟩
section
variable {X : Cx} {pins : List (Addr × Obj)} {σ : L2.St} {H : Hp} {s : Shared} {a b : Addr} {k : NKey} {kvs : List (NKey × V)} {A : Around} {E : Value → Shared → Prop}
theorem inner_is {P : Program} {w : World} {H : Hp} {h : Heap} {ks : List Str} {c : Addr} (ok : HOk P w H h) (e : H c = some (.tup (ks.map V.str))) : (inK P w).is h ks c := by
  obtain ⟨_, its, r, o, h1, h2, n, h3⟩ := (show ObjOk P w H h c (.tup (ks.map V.str)) from ok c _ e)
  refine ⟨o, its.toArray, n, h1, h2, h3, ?_⟩
  have all : ∀ {ks : List Str} {its : List Value}, Vals (ks.map V.str) its → ItemsAre (strKind P w) ks its := by
    intro ks
    induction ks with
    | nil => intro its r; cases r; exact .nil
    | cons x ks ih =>
      intro its r
      cases r with
      | cons r1 r2 =>
        obtain ⟨t, e⟩ := r1
        subst e
        exact .cons (strKind_is _ _ _ _) (ih r2)
  simpa using all r
theorem key_is {P : Program} {w : World} {H : Hp} {h : Heap} {k : NKey} {c : Addr} (ok : HOk P w H h) (e : KeyAt H k c) : (nestKind P w).is h k c := by
  obtain ⟨bs, e1, e2⟩ := e
  obtain ⟨_, its, r, o, h1, h2, n, h3⟩ := (show ObjOk P w H h c (.tup (bs.map V.ref)) from ok c _ e1)
  refine ⟨o, its.toArray, n, h1, h2, h3, ?_⟩
  have all : ∀ {k : NKey} {bs : List Addr} {its : List Value}, Paired (fun (ks : List Str) b => H b = some (.tup (ks.map V.str))) k bs → Vals (bs.map V.ref) its → Inner P w h k its := by
    intro k bs its p
    induction p generalizing its with
    | nil => intro r; cases r; exact .nil
    | cons h1 _ ih =>
      intro r
      cases r with
      | cons r1 r2 =>
        cases r1
        exact .cons (inner_is ok h1) (ih r2)
  simpa using all e2 r
theorem NRel.keys {es : List NEnt} {xs : List (NKey × Addr × Value)} (r : NRel es xs) : es.map (·.1) = xs.map (·.1) := by
  unfold NRel at r
  induction r with
  | nil => rfl
  | cons h _ ih => rw [List.map_cons, List.map_cons, h.1, ih]
theorem NRel.is {P : Program} {w : World} {H : Hp} {h : Heap} {es : List NEnt} {xs : List (NKey × Addr × Value)} (ok : HOk P w H h) (r : NRel es xs) (hk : ∀ e ∈ es, KeyAt H e.1 e.2.1) : ∀ x ∈ xs, (nestKind P w).is h x.1 x.2.1 := by
  unfold NRel at r
  induction r with
  | nil => intro x hx; cases hx
  | @cons p q ps qs h1 _ ih =>
    intro x hx
    rcases List.mem_cons.mp hx with e | hx
    · subst e
      rw [← h1.1, ← h1.2.1]
      exact key_is ok (hk p List.mem_cons_self)
    · exact ih (fun e he => hk e (List.mem_cons_of_mem _ he)) x hx
theorem NRel.val {es : List NEnt} {xs : List (NKey × Addr × Value)} (r : NRel es xs) (k : NKey) : RelO (valV (es.map fun e => (e.1, e.2.2)) k) ((atKey xs k).map (·.2)) := by
  unfold NRel at r
  induction r with
  | nil => trivial
  | @cons p q ps qs h1 _ ih =>
    unfold valV atKey at ih ⊢
    rw [List.map_cons, List.find?_cons, List.find?_cons]
    by_cases e : p.1 = k
    · have e2 : q.1 = k := by rw [← h1.1]; exact e
      rw [decide_eq_true e, decide_eq_true e2]
      exact h1.2.2
    · have e2 : ¬ q.1 = k := by rw [← h1.1]; exact e
      rw [decide_eq_false e, decide_eq_false e2]
      exact ih
theorem nd_get (I : Inv X pins σ H s) (g : NDict X.prog X.w H a kvs) : (a == sysModules) = false ∧ kvs.length ≤ sizeLine ∧ ∃ es xs, H a = some (ND X.prog X.w a es) ∧ (∀ e ∈ es, KeyAt H e.1 e.2.1) ∧ kvs = es.map (fun e => (e.1, e.2.2)) ∧ NRel es xs ∧ s.heap.DictOfH (nestKind X.prog X.w) a xs := by
  obtain ⟨es, ha, hk, rfl⟩ := g
  obtain ⟨⟨hd, hl, xs, r, o, ds, ep, ho, h1, h2, h3, h4⟩, _⟩ := I.hok a _ ha
  exact ⟨hd, by rw [List.length_map]; exact hl, es, xs, ha, hk, rfl, r, o, ds, ep, ho, h1, h2, h3, r.is I.hok hk, h4⟩
theorem n_getItem {v : V} {Q : Value → Shared → Prop} (hu : A.units + 2 < cLine) (I : Inv X pins σ H s) (g : NDict X.prog X.w H a kvs) (hk : KeyAt H k b) (hv : valV kvs k = some v) (h : ∀ w' s', Inv X pins σ H s' → RelV v w' → Q w' s') :
    wpAny (model X.prog X.w) A (getItem (.ref a) (.ref b)) Q E s := by
  obtain ⟨hd, hl, es, xs, ha, he, rfl, r, dd⟩ := nd_get I g
  obtain ⟨w', hw, rw'⟩ := RelO.some_of (v := v) (o := (atKey xs k).map (·.2)) (by rw [← hv]; exact r.val k)
  obtain ⟨p, hp, hp2⟩ := Option.map_eq_some_iff.mp hw
  refine wpAny_getItem_heap (knd := nestKind X.prog X.w) (by show A.in1.units + 1 < cLine; exact hu) (key_is I.hok hk) dd hp ?_
  rw [hp2]
  exact h w' _ (I.tok _) rw'
theorem n_notIn {Q : Value → Shared → Prop} (hu : A.units + 2 < cLine) (I : Inv X pins σ H s) (g : NDict X.prog X.w H a kvs) (hk : KeyAt H k b) (h : ∀ s', Inv X pins σ H s' → Q (.bool (!(valV kvs k).isSome)) s') :
    wpAny (model X.prog X.w) A (compareOp .NotIn (.ref b) (.ref a)) Q E s := by
  obtain ⟨hd, hl, es, xs, ha, he, rfl, r, dd⟩ := nd_get I g
  refine wpAny_notIn_heap (knd := nestKind X.prog X.w) (by show A.in1.units + 1 < cLine; exact hu) (key_is I.hok hk) hd dd ?_
  have q := (r.val k).isSome_eq
  rw [Option.isSome_map] at q
  rw [← q]
  exact h _ (I.tok _)
def putE (es : List NEnt) (k : NKey) (b : Addr) (v : V) : List NEnt := if (valV (es.map fun e => (e.1, e.2.2)) k).isSome then es.map (fun e => if e.1 = k then (e.1, e.2.1, v) else e) else es ++ [(k, b, v)]
theorem NRel.mapPut {v : V} {u : Value} (k : NKey) (rv : RelV v u) {es : List NEnt} {xs : List (NKey × Addr × Value)} (r : NRel es xs) : NRel (es.map fun e => if e.1 = k then (e.1, e.2.1, v) else e) (xs.map (putAt k u)) := by
  unfold NRel at r ⊢
  induction r with
  | nil => exact .nil
  | @cons p z ps qs h1 _ ih =>
    rw [List.map_cons, List.map_cons]
    refine .cons ?_ ih
    unfold putAt
    by_cases e : p.1 = k
    · have e2 : z.1 = k := by rw [← h1.1]; exact e
      rw [if_pos e, if_pos e2]
      exact ⟨h1.1, h1.2.1, rv⟩
    · have e2 : ¬ z.1 = k := by rw [← h1.1]; exact e
      rw [if_neg e, if_neg e2]
      exact h1
theorem NRel.snoc {p : NEnt} {q : NKey × Addr × Value} (h : p.1 = q.1 ∧ p.2.1 = q.2.1 ∧ RelV p.2.2 q.2.2) {es : List NEnt} {xs : List (NKey × Addr × Value)} (r : NRel es xs) : NRel (es ++ [p]) (xs ++ [q]) := by
  unfold NRel at r ⊢
  induction r with
  | nil => exact .cons h .nil
  | cons h1 _ ih => exact .cons h1 ih
theorem NRel.put {es : List NEnt} {xs : List (NKey × Addr × Value)} {v : V} {u : Value} (r : NRel es xs) (k : NKey) (b : Addr) (rv : RelV v u) : NRel (putE es k b v) (storedH xs k b u) := by
  have q := (r.val k).isSome_eq
  rw [Option.isSome_map] at q
  unfold putE storedH
  rw [← q]
  split
  · exact r.mapPut k rv
  · exact r.snoc ⟨rfl, rfl, rv⟩
theorem putE_len (es : List NEnt) (k : NKey) (b : Addr) (v : V) : (putE es k b v).length ≤ es.length + 1 := by
  unfold putE
  split
  · rw [List.length_map]; omega
  · rw [List.length_append]; simp
theorem putE_keys (es : List NEnt) (k : NKey) (b : Addr) (v : V) : (putE es k b v).map (fun e => (e.1, e.2.2)) = putK (es.map fun e => (e.1, e.2.2)) k v := by
  unfold putE putK
  cases h : (valV (es.map fun e => (e.1, e.2.2)) k).isSome with
  | true =>
    have q := valV_any (kvs := es.map fun e => (e.1, e.2.2)) (k := k)
    rw [h] at q
    simp only [q, if_true, List.map_map]
    refine List.map_congr_left fun e _ => ?_
    simp only [Function.comp]
    split <;> rfl
  | false =>
    have q := valV_any (kvs := es.map fun e => (e.1, e.2.2)) (k := k)
    rw [h] at q
    simp [q]
theorem KeyAt.upd {H : Hp} {k : NKey} {c a : Addr} {o u : HO} (x : KeyAt H k c) (ha : H a = some u) (hu : ∀ xs, u ≠ .tup xs) : KeyAt (upd H a o) k c := by
  obtain ⟨bs, e1, e2⟩ := x
  refine ⟨bs, by rw [upd_ne (ne_of e1 ha (fun z => hu _ z.symm))]; exact e1, ?_⟩
  exact Paired.mapP e2 fun ks b e => by rw [upd_ne (ne_of e ha (fun z => hu _ z.symm))]; exact e
theorem n_setItem {v : V} {r : Value} {Q : Unit → Shared → Prop} (hu : A.units + 2 < cLine) (I : Inv X pins σ H s) {es : List NEnt} (ha : H a = some (ND X.prog X.w a es)) (he : ∀ e ∈ es, KeyAt H e.1 e.2.1) (hk : KeyAt H k b) (hl : es.length < sizeLine) (rv : RelV v r)
    (h : ∀ s', Inv X pins σ (upd H a (ND X.prog X.w a (putE es k b v))) s' → Q () s') : wpAny (model X.prog X.w) A (setItem (.ref a) (.ref b) r) Q E s := by
  obtain ⟨⟨hd, _, xs, rel, o, ds, ep, ho, h1, h2, h3, h4⟩, _⟩ := I.hok a _ ha
  have dd : s.heap.DictOfH (nestKind X.prog X.w) a xs := ⟨o, ds, ep, ho, h1, h2, h3, rel.is I.hok he, h4⟩
  have hz : xs.length ≤ sizeLine := by
    have : es.length = xs.length := Paired.length rel
    omega
  refine wpAny_setItem_heap (knd := nestKind X.prog X.w) (hsz := hz) (by show A.in1.units + 1 < cLine; exact hu) (key_is I.hok hk) dd fun h' dd' hs => h _ ?_
  obtain ⟨q, es', ep', hq, g2, g3, g4, _, g5⟩ := dd'
  have hlen := putE_len es k b v
  exact d_write I (by rw [ha]; exact True.intro) hs ⟨q, hq⟩ (nd_ok ⟨hd, by omega, _, rel.put k b rv, q, es', ep', hq, g2, g3, g4, g5⟩)
end
/-! ### the rules -/
def tNNew (P : Program) (w : World) : TE := fun _ H Q => ∀ p, H p = none → Q (.ref p) (upd H p (ND P w p []))
def tNGet (P : Program) (w : World) (td ty : TE) : TE := fun σ H Q => td σ H fun x H1 => ty σ H1 fun y H2 => ∃ a kvs k b v, x = .ref a ∧ y = .ref b ∧ NDict P w H2 a kvs ∧ KeyAt H2 k b ∧ valV kvs k = some v ∧ Q v H2
def tNNotIn (P : Program) (w : World) (ty td : TE) : TE := fun σ H Q => ty σ H fun y H1 => td σ H1 fun x H2 => ∃ a kvs k b, x = .ref a ∧ y = .ref b ∧ NDict P w H2 a kvs ∧ KeyAt H2 k b ∧ Q (.bl (!(valV kvs k).isSome)) H2
def sNPut (P : Program) (w : World) (td ty tv : TE) : TS := fun D σ H => tv σ H fun v H1 => td σ H1 fun x H2 => ty σ H2 fun y H3 => ∃ a kvs k b, x = .ref a ∧ y = .ref b ∧ NDict P w H3 a kvs ∧ kvs.length < sizeLine ∧ KeyAt H3 k b ∧
  ∀ H4, (∀ c o, c ≠ a → H3 c = some o → H4 c = some o) → (∀ c, c ≠ a → H3 c = none → H4 c = none) → NDict P w H4 a (putK kvs k v) → D.nx σ H4
section
variable {X : Cx} {o i e value : Expr} {pos pos' tpos : Pos} {td ty tv : TE}
theorem pe_nnew : PE X (.Dict [] [] pos) (tNNew X.prog X.w) := ⟨fun pins s σ H Q I h =>
  wpAny_Dict_empty ⟨.ref s.heap.objs.size, _, I.laid (a := s.heap.objs.size) (o := ND X.prog X.w s.heap.objs.size []) (t' := s.toks) (fun _ _ q => Heap.get?_push_of_some _ q) (Nat.le_refl _)
    (nd_ok ⟨beq_eq_false_iff_ne.mpr (Ne.symm (Nat.ne_of_lt I.big)), Nat.zero_le _, [], .nil, _, #[], 0, Heap.get?_push_size _ rfl, ⟨rfl, rfl, rfl⟩, rfl, rfl, List.nodup_nil⟩), rfl, h _ (I.hok.fresh (Nat.le_refl _))⟩⟩
theorem nd_typeIs {pins : List (Addr × Obj)} {σ : L2.St} {H : Hp} {s : Shared} {a : Addr} {kvs : List (NKey × V)} (I : Inv X pins σ H s) (g : NDict X.prog X.w H a kvs) : s.TypeIs (.ref a) "dict" := by
  obtain ⟨_, _, _, _, _, _, _, _, dd⟩ := nd_get I g
  exact dd.typeIs
theorem pe_nget (hu : X.A.units + 2 < cLine) (ho : PE X o td) (hi : PE X i ty) (hs : NoSl i) : PE X (.Subscript o i pos) (tNGet X.prog X.w td ty) := by
  refine ⟨fun pins s σ H Q I h => ?_⟩
  refine subD_of PySem.F.slot_dict_getitem.lookup hs (thn (ho.run pins s σ H _ I h) fun u s1 ⟨x, H1, I1, rx, q1⟩ => thn (hi.run pins s1 σ H1 _ I1 q1) fun iv s2 ⟨y, H2, I2, ry, a, kvs, k, b, v, ex, ey, g, hk, hv, q2⟩ => ?_)
  subst ex ey
  obtain rfl : u = Value.ref a := rx
  obtain rfl : iv = Value.ref b := ry
  exact ⟨nd_typeIs I2 g, n_getItem hu I2 g hk hv fun w' s3 I3 rw' => ⟨v, H2, I3, rw', q2⟩⟩
theorem pc_nnotin (hu : X.A.units + 2 < cLine) (hi : PE X i ty) (ho : PE X o td) : PC X .NotIn i o (tNNotIn X.prog X.w ty td) := by
  refine ⟨fun pins s σ H Q I h => ?_⟩
  refine thn (hi.run pins s σ H _ I h) fun iv s1 ⟨y, H1, I1, ry, q1⟩ => thn (ho.run pins s1 σ H1 _ I1 q1) fun u s2 ⟨x, H2, I2, rx, a, kvs, k, b, ex, ey, g, hk, q2⟩ => ?_
  subst ex ey
  obtain rfl : u = Value.ref a := rx
  obtain rfl : iv = Value.ref b := ry
  exact n_notIn hu I2 g hk fun s3 I3 => ⟨.bl _, H2, I3, rfl, q2⟩
theorem ps_nput (hu : X.A.units + 2 < cLine) (ho : PE X o td) (hi : PE X i ty) (hv : PE X value tv) (hs : swapsWith value (some (.Subscript o i pos')) pos.line X.env = pure false) :
    PS X (.Assign [.Subscript o i pos'] value pos) (sNPut X.prog X.w td ty tv) := by
  refine ⟨fun pins s σ H D I h => ?_⟩
  refine wpAny_Assign_Subscript (thn (hv.run pins s σ H _ I h) fun r s1 ⟨v, H1, I1, rv, q1⟩ => thn (ho.run pins s1 σ H1 _ I1 q1) fun u s2 ⟨x, H2, I2, rx, q2⟩ => thn (hi.run pins s2 σ H2 _ I2 q2) fun iv s3 ⟨y, H3, I3, ry, a, kvs, k, b, ex, ey, g, hl, hk, q3⟩ => ?_) hs
  subst ex ey
  obtain rfl : u = Value.ref a := rx
  obtain rfl : iv = Value.ref b := ry
  obtain ⟨es, ha, he, rfl⟩ := g
  rw [List.length_map] at hl
  refine n_setItem hu I3 ha he hk hl rv fun s4 I4 => ⟨σ, _, I4, ?_⟩
  have nt : ∀ xs, ND X.prog X.w a es ≠ .tup xs := fun xs z => nomatch z
  refine q3 _ (fun c o hc e => by rw [upd_ne hc]; exact e) (fun c hc e => by rw [upd_ne hc]; exact e) ⟨_, upd_same, fun e hem => ?_, (putE_keys es k b v).symm⟩
  unfold putE at hem
  split at hem
  · obtain ⟨e0, he0, e1⟩ := List.mem_map.mp hem
    have := (he e0 he0).upd (o := ND X.prog X.w a (putE es k b v)) ha nt
    subst e1
    split
    · exact this
    · exact this
  · rcases List.mem_append.mp hem with hem | hem
    · exact (he e hem).upd ha nt
    · rw [List.mem_singleton.mp hem]
      exact hk.upd ha nt
end
end KN
end
section
set_option Elab.async false
set_option linter.all false
set_option maxRecDepth 100000
set_option maxHeartbeats 4000000
/-! ## More rules: a method of one of several classes, a def off a class, sorted texts of any number -/
namespace KR
open PySem PySem.Spec PyProof.Rows L2
/-- a method of the class at C that keeps the promise sp -/
structure MD (X : Cx) (k : Nat) (C : Addr) (m : Str) (sp : Sp) : Prop where
  ex : ∃ (f : Addr) (fd : FuncData) (ps : List Str), Cls X.K C ∧ Meth X.K C m f ∧ FnOk X.prog X.w X.K X.mg X.base CX0 k f fd ps sp ∧ Binds X.K fd ps []
/-- o.m(..): o an instance of one of the classes c i, i told by what stands there -/
def tMethD {ι : Type} (c : ι → Addr) (m : Str) (sp : ι → Sp) (ta : TE) (t : TA) : TE := fun σ H Q => ta σ H fun x H1 => ∃ i a dx fs, x = .ref a ∧ H1 a = some (.ins (c i) dx fs) ∧ fs.lookup m = none ∧ t σ H1 fun vs H2 => sp i (x :: vs) H2 Q E0
section
variable {X : Cx} {ι : Type} {c : ι → Addr} {k j : Nat} {m : Str} {sp : ι → Sp} {o e : Expr} {es : List Expr} {ta : TE} {t : TA} {apos pos : Pos}
theorem pe_methD {pl : Sem Bool} (he : PE X o ta) (M : ∀ i, MD X k (c i) m (sp i)) (hr : Room j X.A) (hk : k ≤ j) (ha : PA X (e :: es) t)
    (hst : starEach (e :: es) X.env = (false, eval e X.env) :: starEach es X.env := by rfl) (hpl : (backTo pos (starEach es X.env)).any (·.1) = false := by rfl)
    (ht : eval (.Call (.Attribute o m apos) (e :: es) [] pos) X.env = (do
      let ov ← eval o X.env
      standAt apos.atName
      let (f, first) ← holding [ov] (getMethod ov m pl)
      callWith pos f first (backTo pos (starEach (e :: es) X.env)) (backToKw pos (keywordEach [] X.env))) := by rfl) :
    PE X (.Call (.Attribute o m apos) (e :: es) [] pos) (tMethD c m sp ta t) := by
  refine ⟨fun pins s σ H Q I h => ?_⟩
  refine PySem.W.methodCall_KW (pl := pl) (thn (he.run pins s σ H _ I h) fun u s1 ⟨x, H1, I1, rx, i, a, dx, fs, ex, ea, l, q⟩ => ?_) ht
  subst ex
  obtain rfl : u = Value.ref a := rx
  obtain ⟨f, fd, ps, cl, hm, F, hb⟩ := (M i).ex
  refine getmeth_ok I1 ea cl hm l ?_
  refine PySem.W.callWith_K (first := [.ref a]) (h₀ := X.base) I.ok.mod.kin hm.kp (thn (ha.run pos pins s1 σ H1 _ I1 q) fun us s2 ⟨vs, H2, I2, r, q2⟩ => ⟨I2.kIn, ?_⟩) hst hpl
  exact run_fn (us := .ref a :: us) (vs := .ref a :: vs) F (hr.mono hk) hb .nil pass0 I2 (.cons rfl r) (by rw [List.append_nil]; exact q2)
theorem pe_meth0D {pl : Sem Bool} (he : PE X o ta) (M : ∀ i, MD X k (c i) m (sp i)) (hr : Room j X.A) (hk : k ≤ j)
    (ht : eval (.Call (.Attribute o m apos) [] [] pos) X.env = (do
      let ov ← eval o X.env
      standAt apos.atName
      let (f, first) ← holding [ov] (getMethod ov m pl)
      callWith pos f first (backTo pos (starEach [] X.env)) (backToKw pos (keywordEach [] X.env))) := by rfl) :
    PE X (.Call (.Attribute o m apos) [] [] pos) (tMethD c m sp ta tNil) := by
  refine ⟨fun pins s σ H Q I h => ?_⟩
  refine PySem.W.methodCall_KW (pl := pl) (thn (he.run pins s σ H _ I h) fun u s1 ⟨x, H1, I1, rx, i, a, dx, fs, ex, ea, l, q⟩ => ?_) ht
  subst ex
  obtain rfl : u = Value.ref a := rx
  obtain ⟨f, fd, ps, cl, hm, F, hb⟩ := (M i).ex
  refine getmeth_ok I1 ea cl hm l ?_
  exact PySem.W.callWith_K0 (first := [.ref a]) I1.kIn hm.kp (run_fn (us := [.ref a]) (vs := [.ref a]) F (hr.mono hk) hb .nil pass0 I1 (.cons rfl .nil) q)
end
/-- C.m(e, ..), C a class of the text, m a def of it, by position -/
def tClsFn (C : Addr) (sp : Sp) (ta : TE) (t : TA) : TE := fun σ H Q => ta σ H fun x H1 => x = .ref C ∧ t σ H1 fun vs H2 => sp vs H2 Q E0
section
variable {X : Cx} {k j : Nat} {C f : Addr} {fd : FuncData} {ps : List Str} {m : Str} {sp : Sp} {o e : Expr} {es : List Expr} {ta : TE} {t : TA} {apos pos : Pos} {mc : Value}
theorem pe_clsfn {pl : Sem Bool} (he : PE X o ta) (r : ClX.CRead X.K C mc) (c : ClX.CVal X.K C mc m (.ref f) (.ref f)) (kf : PySem.W.keepIn X.K (.ref f) = true) (F : FnOk X.prog X.w X.K X.mg X.base CX0 k f fd ps sp) (hb : Binds X.K fd ps []) (hr : Room j X.A) (hk : k ≤ j) (ha : PA X (e :: es) t)
    (hst : starEach (e :: es) X.env = (false, eval e X.env) :: starEach es X.env := by rfl) (hpl : (backTo pos (starEach es X.env)).any (·.1) = false := by rfl)
    (ht : eval (.Call (.Attribute o m apos) (e :: es) [] pos) X.env = (do
      let ov ← eval o X.env
      standAt apos.atName
      let (f, first) ← holding [ov] (getMethod ov m pl)
      callWith pos f first (backTo pos (starEach (e :: es) X.env)) (backToKw pos (keywordEach [] X.env))) := by rfl) :
    PE X (.Call (.Attribute o m apos) (e :: es) [] pos) (tClsFn C sp ta t) := by
  refine ⟨fun pins s σ H Q I h => ?_⟩
  refine PySem.W.methodCall_KW (pl := pl) (thn (he.run pins s σ H _ I h) fun u s1 ⟨x, H1, I1, rx, ex, q⟩ => ?_) ht
  subst ex
  obtain rfl : u = Value.ref C := rx
  refine PySem.W.method_cls I1.kIn r.ga (ClX.getcval_ok I1 r c fun s2 I2 => ?_)
  refine PySem.W.callWith_K (first := []) (h₀ := X.base) I.ok.mod.kin kf (thn (ha.run pos pins s2 σ H1 _ I2 q) fun us s3 ⟨vs, H2, I3, rv, q2⟩ => ⟨I3.kIn, ?_⟩) hst hpl
  exact run_fn (us := us) (vs := vs) F (hr.mono hk) hb .nil pass0 I3 rv (by rw [List.append_nil]; exact q2)
end
/-- sorted(xs), texts, any number of them -/
def rSortedSA (K : PySem.W.Frag) : List V → Hp → VK → Prop := fun vs H Q => ∃ (a : Addr) (xs : List Str), vs = [V.ref a] ∧ SqL K H a (xs.map V.str) ∧
  ∀ (ys : List Str) (p : Addr), ys.Perm xs → H p = none → Q (.ref p) (upd H p (.lst (ys.map V.str)))
theorem cr_sortedSA {X : Cx} : CallR X (.builtin "sorted") (rSortedSA X.K) := by
  intro pins s σ H vs us Q I r h
  obtain ⟨a, xs, rfl, hs, q⟩ := h
  obtain ⟨its, rv, hl, hz⟩ := I.list hs
  rw [Vals.ref1 r]
  rw [List.length_map] at hz
  have hlen0 := rv.length
  rw [List.length_map] at hlen0
  refine PyProof.Rows.sorted_strsAny hl.isList rv.strs (by rw [← hlen0]; exact hz) fun out ys h1 h2 h3 => ?_
  obtain ⟨ep, he'⟩ := PyProof.Rows.sortedAll_at s.heap its out
  have hlen : (ys.map V.str).length ≤ sizeLine := by rw [List.length_map, h2.length_eq]; exact hz
  exact ⟨.ref _, upd H (s.heap.objs.size + 1) (.lst (ys.map V.str)), I.laid (t' := s.toks) (fun _ _ => PyProof.Rows.sortedAll_old) (Nat.le_succ _) ⟨hlen, out.toList, ep, vals_of_strs h1, he'⟩, rfl, q ys _ h2 (I.hok.fresh (Nat.le_succ _))⟩
end KR
end
section
set_option Elab.async false
set_option linter.all false
set_option autoImplicit false
set_option maxRecDepth 100000
set_option maxHeartbeats 4000000
/-! ## A tuple whose own object is known; t.index(x) of it -/
namespace KR
open PySem PySem.Spec PyProof.Rows L2
theorem call_tupleE {X : Cx} : CallR X (.type "tuple") (fun xs H Q => ∃ p ys, xs = [.ref p] ∧ SqL X.K H p ys ∧ ∀ (l : Addr) (ob : Obj), ob.dict = none → H l = none → Q (.ref l) (upd H l (.frz ob (.tup ys)))) := by
  intro pins s σ H xs us Q I r h
  obtain ⟨p, ys, rfl, hq, q⟩ := h
  obtain ⟨u, rfl, rx⟩ := vals1 r
  cases rx
  obtain ⟨its, r', pl, hz⟩ := I.list hq
  have hlen := r'.length
  refine call_tuple_list pl.isList (fun h' kp => ?_) (by simp only [List.size_toArray] <;> omega)
  have I1 : Inv X pins σ H { s with heap := h' } := I.kept (t' := s.toks) kp
  have I2 : Inv X pins σ (upd H h'.objs.size (.frz { cls := .type "tuple", data := .seq its.toArray } (.tup ys))) { s with heap := h'.push { cls := .type "tuple", data := .seq its.toArray } } :=
    I1.laid (t' := s.toks) (fun b o e => Heap.get?_push_of_some _ e) (Nat.le_refl _) (show ObjOk X.prog X.w _ _ _ (.frz _ (.tup ys)) from ⟨Heap.get?_push_size _ rfl, hz, its, r', IsTup.new _ _⟩)
  exact ⟨.ref h'.objs.size, _, I2, rfl, q _ _ rfl (I1.hok.fresh (Nat.le_refl _))⟩
def rTI (K : PySem.W.Frag) : V → List V → Hp → VK → Prop := fun x xs H Q => ∃ p, ∃ ys : List Str, ∃ z j, x = .ref p ∧ xs = [.str z] ∧ SqT K H p (ys.map V.str) ∧ ys[j]? = some z ∧ (∀ m, m < j → ys[m]? ≠ some z) ∧ Q (.int (j : Nat)) H
def tTI (K : PySem.W.Frag) (to : TE) (t : TA) : TE := fun σ H Q => to σ H fun x H1 => (∃ a ob ys, x = .ref a ∧ H1 a = some (.frz ob (.tup ys)) ∧ ob.dict = none) ∧ t σ H1 fun xs H2 => rTI K x xs H2 Q
section
variable {X : Cx} {o e : Expr} {es : List Expr} {to : TE} {t : TA} {apos cpos : Pos}
theorem pe_tindex (ho : PE X o to) (ha : PA X (e :: es) t)
    (hbase : attributeBase o "index" X.env (eval o X.env) = eval o X.env := by rfl)
    (hfew : ((backTo cpos (starEach (e :: es) X.env)).all (fun x => !x.1) && (backToKw cpos (keywordEach [] X.env)).all (fun x => x.1.isSome)
      && decide ((e :: es).length + ([] : List Keyword).length + (if ([] : List Keyword).isEmpty then 0 else 1) < 30)) = true := by rfl)
    (hline : (apos.endLine == cpos.line) = true := by rfl) (hs : starEach (e :: es) X.env = (false, eval e X.env) :: starEach es X.env := by rfl) (hplain : (backTo cpos (starEach es X.env)).any (·.1) = false := by rfl) :
    PE X (.Call (.Attribute o "index" apos) (e :: es) [] cpos) (tTI X.K to t) := by
  refine ⟨fun pins s σ H Q I h => ?_⟩
  refine wpAny_Call_method_late hbase hfew hline rfl (thn (ho.run pins s σ H _ I h) fun v s1 ⟨x, H1, I1, r1, ⟨a, ob, ys, ex, ea, en⟩, q1⟩ => ?_)
  subst ex
  cases (show v = Value.ref a from r1)
  obtain ⟨h1, h2⟩ := (show ObjOk X.prog X.w H1 s1.heap a (.frz ob (.tup ys)) from I1.hok a _ ea)
  obtain ⟨_, its, _, o2, e2, c2, _⟩ := h2
  rw [h1] at e2
  cases e2
  refine ⟨"tuple", "tuple.index", PySem.F.plainAttrs_tuple, PySem.F.slot_tuple_index, PySem.F.type_tuple_index, ⟨ob, h1, c2⟩, fun b q => by cases q; exact ⟨ob, h1, en⟩, ?_⟩
  have hA := ha.run cpos pins s1 σ H1 _ I1 q1
  rw [hs] at hA ⊢
  refine Calls.callWith_builtin (by show (false || (backTo cpos (starEach es X.env)).any (·.1)) = false; rw [hplain] <;> rfl) (Calls.evalArgs_plain ?_)
  exact thn hA fun us s2 ⟨vs, H2, I2, r2, q2⟩ => mt_tup_index pins s2 σ H2 (.ref a) vs (.ref a) us Q I2 rfl r2 q2
end
end KR
end
section
set_option Elab.async false
set_option linter.all false
set_option maxRecDepth 100000
set_option maxHeartbeats 4000000
/-! ## set(list of texts), sorted(set of texts) -/
namespace KS
open PySem PySem.Spec PyProof.Rows L2
def keyS (e : Int × Value) : Str := match e.2 with
  | .str x _ => x
  | _ => Str.empty
def GoodS (P : Program) (w : World) (e : Int × Value) : Prop := ∃ x tk, e.2 = Value.str x tk ∧ e.1 = (strKind P w).hash x
/-- the set of texts at a: its members are those of S -/
def SetSR (P : Program) (w : World) (h : Heap) (a : Addr) (S : List Str) : Prop :=
  ∃ o es ep t, h.get? a = some o ∧ o.ExactSet ∧ o.data = .set es ep t ∧ (∀ e ∈ es.toList, GoodS P w e) ∧ (es.toList.map keyS).Nodup ∧ (∀ k, k ∈ S ↔ k ∈ es.toList.map keyS) ∧
    es.size ≤ S.length ∧ S.length < 1000 ∧ t.fits es.size = true ∧ Ris t.place.toList ∧ (w.params.followText "set-order" = true ∨ t.led = true)
section
variable {P : Program} {w : World} {h h' : Heap} {a : Addr} {S : List Str}
theorem SetSR.at (R : SetSR P w h a S) (k : ∀ o, h.get? a = some o → h'.get? a = some o) : SetSR P w h' a S := by
  obtain ⟨o, es, ep, t, ho, r⟩ := R
  exact ⟨o, es, ep, t, k o ho, r⟩
theorem goodS_elems {l : List (Int × Value)} (g : ∀ e ∈ l, GoodS P w e) : ElemsOf (strKind P w) l := fun e he => by
  obtain ⟨x, tk, h1, h2⟩ := g e he
  exact ⟨⟨x, by rw [h1]; exact strKind_is P w x tk, h2⟩, by rw [h1] <;> rfl⟩
theorem goodS_is {e : Int × Value} (g : GoodS P w e) (k : Str) : (strKind P w).is k e.2 = true ↔ keyS e = k := by
  obtain ⟨x, tk, h1, _⟩ := g
  unfold keyS
  rw [h1]
  constructor
  · intro q
    exact (strKind P w).inj (.str x tk) x k (strKind_is P w x tk) q
  · intro q
    have q2 : x = k := q
    rw [← q2]
    exact strKind_is P w x tk
theorem goodS_mem {l : List (Int × Value)} (g : ∀ e ∈ l, GoodS P w e) (k : Str) : k ∈ l.map keyS ↔ ∃ e ∈ l, (strKind P w).is k e.2 = true := by
  rw [List.mem_map]
  constructor
  · rintro ⟨e, he, q⟩
    exact ⟨e, he, (goodS_is (g e he) k).2 q⟩
  · rintro ⟨e, he, q⟩
    exact ⟨e, he, (goodS_is (g e he) k).1 q⟩
end
section
variable {P : Program} {w : World} {A : Around} {E : Value → Shared → Prop} {s : Shared} {a : Addr} {S : List Str}
theorem addS_tail {g : Bool → Sem Unit} (hg : ∀ (b : Bool) (s₁ : Shared) (Q' : Unit → Shared → Prop), Q' () s₁ → wpAny (model P w) A (g b) Q' E s₁)
    {o : Obj} {es : Array (Int × Value)} {ep : Nat} {t : SetTable} (ho : s.heap.get? a = some o) (hex : o.ExactSet) (hd : o.data = .set es ep t)
    {es1 : Array (Int × Value)} {t2 : SetTable} {S' : List Str} (g1 : ∀ e ∈ es1.toList, GoodS P w e) (nd1 : (es1.toList.map keyS).Nodup) (m1 : ∀ k, k ∈ S' ↔ k ∈ es1.toList.map keyS)
    (hb1 : es1.size ≤ S'.length) (hb2 : S'.length < 1000) (hf2 : t2.fits es1.size = true) (hr : Ris t2.place.toList) (hl : w.params.followText "set-order" = true ∨ t2.led = true) {wasDummy : Bool} {R : Option Bool → Shared → Prop}
    (hR : ∀ h', Heap.SameBut a s.heap h' → SetSR P w h' a S' → R (some true) { s with heap := h' }) :
    wpAny (model P w) A (do
        storeSet a es1 t2
        if (!wasDummy && t2.tooFull) = true then do
            g (relayAll t2 es1 (SetTable.grown es1.size)).2.2
            storeSet a (relayAll t2 es1 (SetTable.grown es1.size)).1 (relayAll t2 es1 (SetTable.grown es1.size)).2.1
            pure (some true)
          else pure (some true)) R E s := by
  have hsb : ∀ {n : Nat}, n ≤ S'.length → n < scanBound := fun hn => by unfold scanBound; omega
  refine wpAny_bind (wpAny_storeSet_of ho hd ?_ (fits_of_scanBound (hsb hb1)))
  have ho1 := store_at (es' := es1) (t' := t2) ho hd
  have sb1 := Heap.SameBut.update s.heap a (Obj.putSet es1 t2)
  split
  · have pm := relayAll_perm t2 es1 (SetTable.grown es1.size)
    have hf3 := relayAll_fits t2 es1 (SetTable.grown es1.size)
    have hr3 := relayAll_ris t2 es1 (SetTable.grown es1.size)
    have hl3 := relayAll_led t2 es1 (SetTable.grown es1.size)
    generalize relayAll t2 es1 (SetTable.grown es1.size) = Z at pm hf3 hr3 hl3 ⊢
    obtain ⟨es2, t3, gave⟩ := Z
    dsimp only at pm hf3 hr3 hl3 ⊢
    have hsz : es2.size = es1.size := by rw [← Array.length_toList, pm.length_eq, Array.length_toList]
    refine wpAny_bind (hg _ _ _ ?_)
    refine wpAny_bind (wpAny_storeSet_of ho1 rfl ?_ (fits_of_scanBound (hsb (by rw [hsz]; exact hb1))))
    have ho2 := store_at (es' := es2) (t' := t3) ho1 rfl
    refine wpAny_pure (hR _ (sb1.trans (Heap.SameBut.update _ a _)) ?_)
    exact ⟨_, es2, _, t3, ho2, hex, rfl, fun e he => g1 e (pm.mem_iff.mp he), (pm.map keyS).nodup_iff.mpr nd1, fun k => (m1 k).trans (pm.map keyS).mem_iff.symm, by rw [hsz]; exact hb1, hb2, hf3, hr3,
      hl.imp id fun z => by rw [hl3]; exact z⟩
  · exact wpAny_pure (hR _ sb1 ⟨_, es1, _, t2, ho1, hex, rfl, g1, nd1, m1, hb1, hb2, hf2, hr, hl⟩)
theorem addS {k : Str} {tk : Tok} {Q : Bool → Shared → Prop} (R : SetSR P w s.heap a S) (room : S.length + 1 < 1000)
    (hQ : ∀ (h' : Heap) (b : Bool), Heap.SameBut a s.heap h' → SetSR P w h' a (S ++ [k]) → Q b { s with heap := h' }) :
    wpAny (model P w) A (setAddHashed a (.str k tk) ((strKind P w).hash k)) Q E s := by
  obtain ⟨o, es, ep, t, ho, hex, hd, g, nd, hm, hb, hb2, hf, hr, hl⟩ := R
  have hkey : (strKind P w).is k (.str k tk) = true := strKind_is P w k tk
  have hsc : (Value.str k tk).scannable = true := rfl
  have hel : ElemsOf (strKind P w) es.toList := goodS_elems g
  have hlen : (S ++ [k]).length = S.length + 1 := by simp
  unfold setAddHashed setAddHashedIn
  refine wpAny_holding (wpAny_bind (wpAny_setState_of ho hd hf ?_))
  dsimp only
  rw [byScan_of hsc (by unfold scanBound; omega) hel]
  simp only [↓reduceIte]
  unfold setAddByScan
  refine wpAny_bind ?_
  refine wpAny_bind (wpAny_rule ?_)
  refine wpAny_bind (wpAny_setScan_of hkey ho hd hf hel ?_)
  cases hfi : List.findIdx? (fun e => (strKind P w).is k e.2) es.toList with
  | some j =>
    dsimp only
    obtain ⟨hj, pj, _⟩ := List.findIdx?_eq_some_iff_getElem.mp hfi
    have hSk : k ∈ S := (hm k).2 ((goodS_mem (P := P) (w := w) g k).2 ⟨es.toList[j], List.getElem_mem hj, pj⟩)
    refine wpAny_pure (wpAny_pure ?_)
    exact hQ s.heap _ (Heap.SameBut.refl a s.heap) ⟨o, es, ep, t, ho, hex, hd, g, nd, fun i => by
      rw [List.mem_append, List.mem_singleton, ← hm i]
      exact ⟨fun z => z.elim id (fun e => e ▸ hSk), .inl⟩, by omega, by omega, hf, hr, hl⟩
  | none =>
    dsimp only
    have hnk : k ∉ es.toList.map keyS := fun z => by
      obtain ⟨e, he, q⟩ := (goodS_mem (P := P) (w := w) g k).1 z
      have c := List.findIdx?_eq_none_iff.mp hfi e he
      rw [q] at c
      cases c
    have hgw : ∀ (b : Bool) {s₁ : Shared} {Q' : Unit → Shared → Prop}, Q' () s₁ → wpAny (model P w) A (match b with | true => rule "set.scan.the-table-gave-way" | false => pure ()) Q' E s₁ :=
      fun b s₁ Q' q => by cases b <;> first | exact wpAny_pure q | exact wpAny_rule q
    have pm := layNew_perm t es ((strKind P w).hash k) (.str k tk)
    have hf1 := layNew_fits t es ((strKind P w).hash k) (.str k tk)
    have hr1 := layNew_ris t es ((strKind P w).hash k) (.str k tk) hr
    have hl1 := layNew_led t es ((strKind P w).hash k) (.str k tk)
    generalize layNew t es ((strKind P w).hash k) (.str k tk) = Z at pm hf1 hr1 hl1 ⊢
    obtain ⟨es1, t1, wasDummy, gave⟩ := Z
    dsimp only at pm hf1 hr1 hl1 ⊢
    rw [Array.toList_push] at pm
    have pc : es1.toList.Perm (((strKind P w).hash k, Value.str k tk) :: es.toList) := pm.trans (List.perm_append_singleton _ _)
    have pk : (es1.toList.map keyS).Perm (k :: es.toList.map keyS) := pc.map keyS
    have g1 : ∀ e ∈ es1.toList, GoodS P w e := fun e he => by
      rcases List.mem_cons.mp (pc.mem_iff.mp he) with z | z
      · rw [z]; exact ⟨k, tk, rfl, rfl⟩
      · exact g e z
    have nd1 : (es1.toList.map keyS).Nodup := pk.nodup_iff.mpr (List.nodup_cons.mpr ⟨hnk, nd⟩)
    have m1 : ∀ i, i ∈ S ++ [k] ↔ i ∈ es1.toList.map keyS := fun i => by
      rw [List.mem_append, List.mem_singleton, hm i, pk.mem_iff, List.mem_cons]
      exact Or.comm
    have hsz : es1.size = es.size + 1 := by rw [← Array.length_toList, pc.length_eq, List.length_cons, Array.length_toList]
    have hb1 : es1.size ≤ (S ++ [k]).length := by omega
    have hb3 : (S ++ [k]).length < 1000 := by omega
    have hled : w.params.followText "set-order" = true ∨ t1.led = true := hl.imp id fun z => by rw [hl1]; exact z
    refine wpAny_bind (hgw _ ?_)
    split
    · refine wpAny_bind ?_
      rw [hashByValue_scannable 8 hsc]
      refine wpAny_pure ?_
      refine addS_tail ?_ ho hex hd g1 nd1 m1 hb1 hb3 ?_ ?_ ?_ ?_
      · intro b s₁ Q' q; cases b <;> first | exact wpAny_pure q | exact wpAny_rule q
      · first | (split <;> first | exact hf1 | exact SetTable.fits_plain_off hf1) | exact hf1
      · first | (split <;> exact hr1) | exact hr1
      · first | (split <;> exact hled) | exact hled
      · intro h' sb r; dsimp only; exact wpAny_pure (hQ h' _ sb r)
    · refine wpAny_bind (wpAny_pure ?_)
      simp only [↓reduceIte]
      refine addS_tail ?_ ho hex hd g1 nd1 m1 hb1 hb3 hf1 hr1 hled ?_
      · intro b s₁ Q' q; cases b <;> first | exact wpAny_pure q | exact wpAny_rule q
      · intro h' sb r; dsimp only; exact wpAny_pure (hQ h' _ sb r)
theorem freshS {h : Heap} (P : Program) (w : World) : SetSR P w (h.push { cls := .type "set", dict := none, data := .set #[] 0 (.fresh 0 0 (!w.params.followText "set-order")) }) h.objs.size [] :=
  ⟨_, #[], 0, _, Heap.get?_push_size _ rfl, ⟨rfl, rfl, rfl⟩, rfl, (fun e he => by simp at he), (by simp), (fun k => by simp), (by decide), (by decide), (by rfl), List.Pairwise.nil, by
    show _ ∨ (!w.params.followText "set-order") = true
    cases w.params.followText "set-order"
    · exact .inr rfl
    · exact .inl rfl⟩
end
section
variable {prog : Program} {w : World} {A : Around} {R : Result → Shared → Prop} {I : Addr} {fp wr : List Addr} {G : Array GenState → Array GenState → Prop} {n : Nat} {P : Nat → Value → Prop} {St : Nat → Shared → Prop}
theorem loopS (W : WalksS prog w A.in1 I fp wr G n P St) (a : Addr) (hSf : a ∉ fp) (xs : List Str) (hsz : xs.length = n) (hn1 : n < 900)
    (hval : ∀ i v, P i v → ∃ t, v = .str (xs.getD i Str.empty) t) :
    ∀ (k i : Nat) (s : Shared), n - i = k → i ≤ n → St i s → SetSR prog w s.heap a (xs.take i) →
      (∀ s', Moved (a :: wr) G s s' → SetSR prog w s'.heap a (xs.take n) → R (.ok (.ret .none)) s') →
      codeAny (model prog w) A (.builtin "set.update.loop" ⟨[.ref a, .ref I], []⟩) R s := by
  have hSw : a ∉ wr := fun h => hSf (W.sub _ h)
  have hsub : ∀ b ∈ wr, b ∈ a :: wr := fun b hb => List.mem_cons_of_mem _ hb
  intro k
  induction k with
  | zero =>
    intro i s hk hi hst hS hR
    have hin : i = n := by omega
    subst hin
    refine codeAny_builtin PyProof.Rows.F.entry_set_update_loop ?_
    rw [Around.under_plainId PyProof.Rows.F.plain_set_update_loop _]
    show wpAny _ A.in1 (pyNext (.ref I) >>= _) _ _ s
    refine wpAny_bind (W.done s _ _ hst fun s' hm => ?_)
    show wpAny _ A.in1 (ret Value.none) _ _ s'
    exact wpAny_pure (hR s' (hm.mono hsub) (hS.at fun o ho => hm.heap a _ hSw ho))
  | succ k ih =>
    intro i s hk hi hst hS hR
    have hlt : i < n := by omega
    refine codeAny_builtin PyProof.Rows.F.entry_set_update_loop ?_
    rw [Around.under_plainId PyProof.Rows.F.plain_set_update_loop _]
    show wpAny _ A.in1 (pyNext (.ref I) >>= _) _ _ s
    refine wpAny_bind (W.item i s _ _ hlt hst fun v s' hP hst' hm => ?_)
    obtain ⟨t, rfl⟩ := hval i v hP
    have hS' : SetSR prog w s'.heap a (xs.take i) := hS.at fun o ho => hm.heap a _ hSw ho
    show wpAny _ A.in1 (holding [Value.str (xs.getD i Str.empty) t] (setAdd a (.str (xs.getD i Str.empty) t)) >>= _) _ _ s'
    refine wpAny_bind (wpAny_holding ?_)
    unfold setAdd
    refine wpAny_holding ?_
    refine wpAny_bind ((PySem.strKind prog w).pyHash (k := xs.getD i Str.empty) (strKind_is _ _ _ _) ?_)
    have hti : (xs.take i).length = i := by rw [List.length_take]; omega
    refine addS (s := { s' with toks := s'.toks + 1 }) hS' (by omega) fun h' b hsb hS2 => ?_
    have e1 : xs.take i ++ [xs.getD i Str.empty] = xs.take (i + 1) := by
      have hl : i < xs.length := by omega
      have e2 : xs.getD i Str.empty = xs[i] := by simp [List.getD, hl]
      rw [e2, List.take_append_getElem]
    rw [e1] at hS2
    refine wpAny_pure ⟨plainId_quiet PyProof.Rows.F.plain_set_update_loop _, ih (i + 1) _ (by omega) hlt (W.frame _ s' _ _ hst' (Nat.le_succ _) fun b hb o e => ?_) hS2 fun s'' hm'' hS'' => ?_⟩
    · rw [hsb.2 b (fun h : b = a => hSf (by rw [← h]; exact hb))]; exact e
    · refine hR s'' (Moved.trans W.gtrans ((hm.mono hsub).then_heap (Nat.le_succ _) fun b o hb e => ?_) hm'') hS''
      rw [hsb.2 b (fun h : b = a => hb (by rw [h]; exact List.mem_cons_self))]; exact e
end
section
variable {prog : Program} {w : World} {A : Around} {E : Value → Shared → Prop} {s : Shared}
abbrev newSet (w : World) : Obj := { cls := .type "set", dict := none, data := .set #[] 0 (.fresh 0 0 (!w.params.followText "set-order")) }
theorem call_set_texts {l : Addr} {items : Array Value} {xs : List Str} {Q : Value → Shared → Prop}
    (hh : A.handled = none) (hl : s.heap.IsList l items) (hi : PyProof.Rows.StrsAre items.toList xs) (hn1 : xs.length < 900)
    (h : ∀ (h' : Heap) (tk : Nat), SetSR prog w h' s.heap.objs.size xs → (∀ b o, b < s.heap.objs.size → s.heap.get? b = some o → h'.get? b = some o) → Q (.ref s.heap.objs.size) { s with heap := h', toks := tk }) :
    wpAny (model prog w) A (call (.type "set") [.ref l]) Q E s := by
  obtain ⟨c, tl, hmro⟩ := PySem.F.called_set.mro
  have hmade := PySem.F.called_set.made
  have hsub := PySem.F.called_set.sub
  refine wpAny_call (codeAny_of_tree ?_)
  show wpAny _ _ (callAny (.type "set") _) _ _ _
  refine wpAny_pure ⟨Code.quiet_builtin _ (by decide +kernel), codeAny_builtin PySem.F.entry_type_call ?_⟩
  rw [Around.under_plain (weight_type_call_type "set" [.ref l] []) rfl]
  have h1 := PySem.F.called_set.notType
  have h2 := PySem.F.called_set.canCreate
  have hct := PySem.F.typeCall_set_1 (.ref l)
  repeat (any_goals (first | assumption | wp_step))
  refine codeAny_mono (code_set_led1 (.ref l) (E := E) (Q₁ := fun obj s₁ => obj = .ref s.heap.objs.size ∧ s₁ = { s with heap := s.heap.push (newSet w) }) ⟨rfl, rfl⟩) fun r s₁ hr => ?_
  cases r with
  | error e => exact hr
  | ok fl =>
    cases fl with
    | ret obj =>
      obtain ⟨rfl, rfl⟩ := hr
      have hS : (s.heap.push (newSet w)).get? s.heap.objs.size = some (newSet w) := Heap.get?_push_size _ rfl
      have hT : Shared.TypeIs { s with heap := s.heap.push (newSet w) } (.ref s.heap.objs.size) "set" := ⟨_, hS, rfl⟩
      have hli := PySem.F.called_set.init.lookup
      have hbi := PySem.F.called_set.init.bind (.ref s.heap.objs.size)
      repeat (any_goals (first | assumption | wp_step))
      refine codeAny_mono (codeAny_call_builtin (R := wants (fun r s₂ => r = .none ∧ ∃ h' tk, s₂ = { s with heap := h', toks := tk } ∧ SetSR prog w h' s.heap.objs.size xs ∧
          (∀ b o, b < s.heap.objs.size → s.heap.get? b = some o → h'.get? b = some o)) E) PySem.F.called_set.init.plain PySem.F.entry_set_init (check_set_init_1 hT ?_)) fun r₂ s₂ hr₂ => ?_
      · obtain ⟨ol, hol, hcl, nl, hdl⟩ := hl
        obtain ⟨ocls, odict, odata, oslots⟩ := ol
        simp only at hcl hdl
        subst hcl; subst hdl
        have hol' : (s.heap.push (newSet w)).get? l = some { cls := .type "list", dict := odict, data := .seq items nl, slots := oslots } := Heap.get?_push_of_some _ hol
        have hsls := PySem.F.sub_list_set
        have hslf := PySem.F.sub_list_frozenset
        have hne : (Value.type "list" == Value.type "dict") = false := by decide
        have hl1 : (s.heap.push (newSet w)).IsList l items := ⟨_, hol', rfl, nl, rfl⟩
        unfold Builtin.«set.__init__» noKeywords Builtin.Frozenset.updateFrom
        generalize hPI : pyIter = PI
        wp_walk
        subst hPI
        refine wpAny_pyIter_list hl1 ?_
        refine wpAny_bind (wpAny_runValue ?_)
        have hlS : l < s.heap.objs.size := Heap.lt_size hol
        have hh3 : A.in1.in1.in1.handled = none := by simp [hh]
        have hneI : l ≠ (s.heap.push (newSet w)).objs.size := by
          rw [Heap.size_push]; exact Nat.ne_of_lt (Nat.lt_succ_of_lt hlS)
        have hSf : s.heap.objs.size ∉ [(s.heap.push (newSet w)).objs.size, l] := by
          rw [Heap.size_push]; simp only [List.mem_cons, List.mem_singleton, List.not_mem_nil, or_false, not_or]
          exact ⟨Nat.ne_of_lt (Nat.lt_succ_self _), Nat.ne_of_gt hlS⟩
        have hsz : xs.length = items.size := by rw [← StrsAre.len_eq hi, Array.length_toList]
        have hval : ∀ (i : Nat) (v : Value), items[i]? = some v → ∃ t, v = .str (xs.getD i Str.empty) t := fun i v hv => SS.strs_at hi i v (by rw [Array.getElem?_toList]; exact hv)
        refine loopS ((Walks.list hh3 _ l hneI items).toS) s.heap.objs.size
          hSf xs hsz (by rw [← hsz]; exact hn1) hval (items.size - 0) 0 _ (by omega) (Nat.zero_le _)
          ⟨⟨_, Heap.get?_push_size _ rfl, rfl, rfl⟩, (hl1.push _)⟩ ?hS0 ?hR
        case hS0 => exact (freshS (h := s.heap) prog w).at fun o e => Heap.get?_push_of_some _ e
        case hR =>
          intro s' hm hS'
          rw [← hsz, List.take_length] at hS'
          obtain ⟨h', g', d', tk', os'⟩ := s'
          have eg : g' = s.gens := hm.gens
          have ed : d' = s.drawn := hm.drawn
          have eo : os' = s.os := hm.os
          subst eg; subst ed; subst eo
          show wpAny _ _ _ _ _ _
          refine wpAny_pure ?_
          show wpAny _ _ (ret Value.none) _ _ _
          refine wpAny_pure ⟨rfl, h', tk', rfl, hS', fun b o hb e => ?_⟩
          have hb1 : b ≠ s.heap.objs.size := Nat.ne_of_lt hb
          have hb2 : b ≠ (s.heap.push (newSet w)).objs.size := by
            rw [Heap.size_push]; exact Nat.ne_of_lt (Nat.lt_succ_of_lt hb)
          exact hm.heap b o (by simp only [List.mem_cons, List.mem_singleton, List.not_mem_nil, or_false, not_or]; exact ⟨hb1, hb2⟩) (Heap.get?_push_of_some _ (Heap.get?_push_of_some _ e))
      · cases r₂ with
        | error e => exact hr₂
        | ok fl₂ =>
          cases fl₂ with
          | ret r =>
            obtain ⟨rfl, h', tk, rfl, hS', hk'⟩ := hr₂
            repeat (any_goals (first | assumption | wp_step))
            exact h _ _ hS' hk'
          | _ => exact hr₂.elim
    | _ => exact hr.elim
theorem strs_of : ∀ (l : List (Int × Value)), (∀ e ∈ l, GoodS prog w e) → StrsAre (l.map (·.2)) (l.map keyS)
  | [], _ => .nil
  | e :: l, h => by
    obtain ⟨x, tk, h1, _⟩ := h e List.mem_cons_self
    have e2 : keyS e = x := by unfold keyS; rw [h1]
    rw [List.map_cons, List.map_cons, e2, h1]
    exact .cons x tk (strs_of l fun d hd => h d (List.mem_cons_of_mem _ hd))
def strOf : Value → Str
  | .str x _ => x
  | _ => Str.empty
theorem strs_map : ∀ {vs : List Value}, (∀ v ∈ vs, ∃ x t, v = Value.str x t) → StrsAre vs (vs.map strOf)
  | [], _ => .nil
  | v :: vs, h => by
    obtain ⟨x, t, e⟩ := h v List.mem_cons_self
    subst e
    exact .cons x t (strs_map fun u hu => h u (List.mem_cons_of_mem _ hu))
theorem sorted_texts {a : Addr} {S : List Str} {Q : Value → Shared → Prop} (R : SetSR prog w s.heap a S) (hh : A.handled = none)
    (hQ : ∀ s' p (out : Array Value) (c : Nat) (ys : List Str), (∀ b o, s.heap.get? b = some o → s'.heap.get? b = some o) → s'.gens = s.gens → s'.os = s.os → s.heap.objs.size ≤ p →
      s'.heap.get? p = some (seqObj "list" out c) → StrsAre out.toList ys → ys.Nodup → (∀ k, k ∈ ys ↔ k ∈ S) → Q (.ref p) s') :
    wpAny (model prog w) A (call (.builtin "sorted") [.ref a]) Q E s := by
  obtain ⟨o, es, ep, t, ho, hex, hd, g, nd, hm, hb, hb2, hf, hr, hl⟩ := R
  refine Calls.call_function_entry kind_sorted plain_sorted entry_sorted (args_sorted1 _) ?_
  unfold Builtin.«sorted»
  refine wpAny_bind (m := checkCount "sorted" 1 1 _) (wpAny_pure ?_)
  refine wpAny_bind (collect_set (A := A.in1) hh ⟨o, ho, hex.1, hd⟩ hf (by unfold scanBound; omega) hr hl fun s1 vs k1 hz g1 o1 pm => ?_)
  have hvl : vs.length = es.size := by rw [pm.length_eq, List.length_map, Array.length_toList]
  have hI : StrsAre vs (vs.map strOf) := strs_map fun v hv => by
    obtain ⟨e, he, q⟩ := List.mem_map.mp (pm.mem_iff.mp hv)
    obtain ⟨k, tk, h1, _⟩ := g e he
    exact ⟨k, tk, by rw [← q]; exact h1⟩
  have pk : (vs.map strOf).Perm (es.toList.map keyS) := by
    have q := pm.map strOf
    rw [List.map_map] at q
    exact q
  refine wpAny_bind (wpAny_newList ?_ (by rw [hvl, sizeLine_eq]; omega))
  have hoL : (s1.heap.push (seqObj "list" vs.toArray 0)).get? s1.heap.objs.size = some (seqObj "list" vs.toArray 0) := Heap.get?_push_size _ rfl
  refine wpAny_bind (wpAny_holding (wpAny_call_entry slot_list_sort ⟨_, hoL, rfl⟩ entry_list_sort (list_sort_treeKAny strKind_oneLt hoL hI.keysOf (fun v₁ v₂ rest e => keyKind_strs (by rw [← e]; exact hI)) (by rw [hvl, sizeLine_eq]; omega) fun st' a1 a2 => ⟨_, rfl, ?_⟩) (args_list_sort _)))
  obtain ⟨ys, b1, b2, b3⟩ := sorted_out_str hI a1 a2
  obtain ⟨c, hc⟩ := sortedHeap_at (vs := vs) (out := (arrOf st').map (·.2)) hoL
  have pn : ys.Perm (es.toList.map keyS) := b2.trans pk
  refine wpAny_pure ⟨_, rfl, hQ _ s1.heap.objs.size _ c ys (fun b u e => ?_) g1 o1 hz hc b1 (pn.nodup_iff.mpr nd) (fun k => by rw [pn.mem_iff, ← hm k])⟩
  have q := k1 b u e
  have hlt := Heap.lt_size q
  show (sortedHeap (s1.heap.push (seqObj "list" vs.toArray 0)) s1.heap.objs.size vs ((arrOf st').map (·.2))).get? b = some u
  rw [sortedHeap_old (Nat.ne_of_lt hlt) (by rw [size_push']; exact Nat.lt_succ_of_lt hlt)]
  exact Heap.get?_push_of_some _ q
end
/-! ### over the layer -/
def SetSO (P : Program) (w : World) (a : Addr) (S : List Str) : HO := .ext fun h => SetSR P w h a S
theorem setSO_new {P : Program} {w : World} {H : Hp} {h : Heap} {a : Addr} {S : List Str} (R : SetSR P w h a S) : ObjOk P w H h a (SetSO P w a S) := by
  have ⟨o, _, _, _, ho, _⟩ := R
  exact ⟨R, ⟨o, ho⟩, fun h1 h2 p k => p.at k⟩
def rSetOfS (K : PySem.W.Frag) (P : Program) (w : World) : List V → Hp → VK → Prop := fun xs H Q => ∃ (l : Addr) (ss : List Str), xs = [V.ref l] ∧ SqL K H l (ss.map V.str) ∧ ss.length < 900 ∧ ∀ a, H a = none → Q (.ref a) (upd H a (SetSO P w a ss))
def rSortedSetS (P : Program) (w : World) : List V → Hp → VK → Prop := fun vs H Q => ∃ (a : Addr) (S : List Str), vs = [V.ref a] ∧ H a = some (SetSO P w a S) ∧ S.length < 900 ∧
  ∀ (ys : List Str) (p : Addr), ys.Nodup → (∀ k, k ∈ ys ↔ k ∈ S) → H p = none → Q (.ref p) (upd H p (.lst (ys.map V.str)))
theorem nodup_le {α : Type} [DecidableEq α] : ∀ {xs ys : List α}, xs.Nodup → (∀ x ∈ xs, x ∈ ys) → xs.length ≤ ys.length
  | [], _, _, _ => by simp
  | x :: xs, ys, h, hs => by
    rw [List.nodup_cons] at h
    have h2 : ∀ y ∈ xs, y ∈ ys.erase x := fun y hy => (List.mem_erase_of_ne (fun e => h.1 (by rw [← e]; exact hy))).mpr (hs y (List.mem_cons_of_mem _ hy))
    have := nodup_le h.2 h2
    rw [List.length_erase_of_mem (hs x List.mem_cons_self)] at this
    have := List.length_pos_of_mem (hs x List.mem_cons_self)
    rw [List.length_cons]
    omega
section
variable {X : Cx}
theorem cr_setOfS (hc : X.calm = true) : CallR X (.type "set") (rSetOfS X.K X.prog X.w) := by
  intro pins s σ H xs us Q I r h
  obtain ⟨l, ss, rfl, hl, hf, q⟩ := h
  rw [Vals.ref1 r]
  obtain ⟨its, rv, pl, hz⟩ := I.list hl
  have hn : H s.heap.objs.size = none := I.hok.fresh (Nat.le_refl _)
  refine call_set_texts (I.ok.hd hc) pl.isList (by simpa using rv.strs) hf fun h' tk R k => ?_
  exact ⟨.ref s.heap.objs.size, upd H s.heap.objs.size (SetSO X.prog X.w s.heap.objs.size ss), I.laid (t' := tk) (fun b o e => k b o (Heap.lt_size e) e) (Nat.le_refl _) (setSO_new R), rfl, q _ hn⟩
theorem cr_sortedSetS (hc : X.calm = true) : CallR X (.builtin "sorted") (rSortedSetS X.prog X.w) := by
  intro pins s σ H vs us Q I r h
  obtain ⟨a, S, rfl, ha, hf, q⟩ := h
  have R : SetSR X.prog X.w s.heap a S := (I.hok a _ ha).1
  rw [Vals.ref1 r]
  refine sorted_texts R (I.ok.hd hc) fun s' p out c ys k g o hp hg hi nd hm => ?_
  have hlen : (ys.map V.str).length ≤ sizeLine := by
    have := nodup_le nd (fun x hx => (hm x).mp hx)
    rw [List.length_map, sizeLine_eq]
    omega
  have hn : H p = none := I.hok.fresh hp
  have J : Inv X pins σ (upd H p (.lst (ys.map V.str))) { s with heap := s'.heap, gens := s'.gens, drawn := s'.drawn, toks := s'.toks } :=
    I.call (ch := []) (Un.laid k hp hn) (I.hok.laid k hp ⟨hlen, out.toList, c, vals_of_strs hi, hg⟩) (by rw [g]; exact I.bare) (fun _ z => nomatch z)
  have e : s' = { s with heap := s'.heap, gens := s'.gens, drawn := s'.drawn, toks := s'.toks } := by
    cases s'
    cases s
    cases o
    rfl
  rw [e]
  exact ⟨.ref p, _, J, rfl, q ys p nd hm hn⟩
end
end KS
end
section
set_option Elab.async false
set_option linter.all false
set_option autoImplicit false
set_option maxRecDepth 100000
set_option maxHeartbeats 4000000
/-! ## The program's parts: names, defs, promises -/
namespace KG
open PySem PySem.Spec PyProof.Rows L2 KM
open C8 (Cal Met Mak pe_c pe_mk pe_mt pe_mt0)
/-- the five kinds of patterns -/
inductive Kd where
  | one | chain | choice | times | mixed
  deriving DecidableEq
structure Nm where
  c : Kd → Addr
  grow : Addr
  gcls : Addr
  many : Addr
structure DefT (K : PySem.W.Frag) (mg : Str → Option Value) (x : Str) (st : Stmt) : Prop where
  ex : ∃ f fd, FunD K x x (defArgs st) (defBody st) (defScope st) [] [] f fd ∧ mg x = some (.ref f)
structure MetT (K : PySem.W.Frag) (C : Addr) (m q : Str) (st : Stmt) : Prop where
  ex : ∃ f fd, Cls K C ∧ Meth K C m f ∧ FunD K m q (defArgs st) (defBody st) (defScope st) [] [] f fd
structure MakT (K : PySem.W.Frag) (mg : Str → Option Value) (x q : Str) (C : Addr) (st : Stmt) : Prop where
  ex : ∃ f fd, Mk K C f ∧ mg x = some (.ref C) ∧ FunD K "__init__" q (defArgs st) (defBody st) (defScope st) [] [] f fd
/-- how values come to parameters -/
abbrev Bnd (x q : Str) (st : Stmt) (ps : List Str) : Prop := ∀ (kV doc pm : Value) (an : Option Addr) (cdv ct : Value) (us : List Value), us.length = ps.length → bindArgs (PySem.W.fnOf x q (defArgs st) (defBody st) (defScope st) .none kV doc pm an cdv ct) ⟨us, []⟩ = pure (ps.zip us)
abbrev Body (CX : CXT) (P : Program) (w : World) (K : PySem.W.Frag) (mg : Str → Option Value) (base : Heap) (N : List Str) (q : Str) (st : Stmt) (k : Nat) (sp : Sp) : Prop :=
  ∀ (f : Addr) (cdv : Value) (A : Around) (outer : List Env) (s : Shared) (H : Hp) (vs : List V) (Q : VK) (E : XK), Room k (A.deeper (envOfC q (defScope st) s.heap.objs.size f cdv)) → sp vs H Q E →
    ∃ t, PSs (cxOf CX P w K mg base N q (defScope st) f cdv A outer s H E) (defBody st) t ∧ t { nx := fun _ H' => Q .non H', rt := Q } (start N vs) H
abbrev Body0 (P : Program) (w : World) (K : PySem.W.Frag) (mg : Str → Option Value) (base : Heap) (N : List Str) (q : Str) (st : Stmt) (k : Nat) (sp : Sp) : Prop :=
  ∀ (f : Addr) (cdv : Value) (A : Around) (outer : List Env) (s : Shared) (H : Hp) (vs : List V) (Q : VK) (E : XK), Room k (A.deeper (envOfC q (defScope st) s.heap.objs.size f cdv)) → sp vs H Q E →
    ∃ t, PSs (cxOf CX0 P w K mg base N q (defScope st) f cdv A outer s H E).nox (defBody st) t ∧ t { nx := fun _ H' => Q .non H', rt := Q } (start N vs) H
section
variable {P : Program} {w : World} {K : PySem.W.Frag} {mg : Str → Option Value} {base : Heap} {x q m : Str} {st : Stmt} {N ps : List Str} {k : Nat} {sp : Sp} {C : Addr}
theorem body0 (b : Body0 P w K mg base N q st k sp) : Body CX0 P w K mg base N q st k sp := fun f cdv A outer s H vs Q E hr h =>
  let ⟨t, z, y⟩ := b f cdv A outer s H vs Q E hr h
  ⟨t, PSs.nox z, y⟩
theorem DefT.cal (T : DefT K mg x st) (S : FnScope N ps (defScope st)) (b : Bnd x x st ps) (len : ∀ vs H Q E, sp vs H Q E → vs.length = ps.length) (hb : Body0 P w K mg base N x st k sp) : Cal P w K mg base (k + 1) x sp [] := by
  obtain ⟨f, fd, F, m⟩ := T.ex
  exact ⟨f, fd, ps, [], F.ok S len fun cdv A outer s H vs Q E hr h => body0 hb f cdv A outer s H vs Q E hr h, m, F.kp, F.bindsN b, .nil⟩
theorem MetT.met (T : MetT K C m q st) (S : FnScope N ps (defScope st)) (b : Bnd m q st ps) (len : ∀ vs H Q E, sp vs H Q E → vs.length = ps.length) (hb : Body0 P w K mg base N q st k sp) : Met P w K mg base (k + 1) C m sp [] := by
  obtain ⟨f, fd, c, me, F⟩ := T.ex
  exact ⟨f, fd, ps, [], c, me, F.ok S len fun cdv A outer s H vs Q E hr h => body0 hb f cdv A outer s H vs Q E hr h, F.bindsN b, .nil⟩
theorem MakT.mak (T : MakT K mg x q C st) (S : FnScope N ps (defScope st)) (b : Bnd "__init__" q st ps) (len : ∀ vs H Q E, sp vs H Q E → vs.length = ps.length) (hb : Body0 P w K mg base N q st k sp) : Mak P w K mg base (k + 1) x C sp [] := by
  obtain ⟨f, fd, M, m, F⟩ := T.ex
  exact ⟨f, fd, ps, [], M, F.ok S len fun cdv A outer s H vs Q E hr h => body0 hb f cdv A outer s H vs Q E hr h, m, F.bindsN b, .nil⟩
theorem Cal.mono' {j : Nat} {ds : List V} (c : Cal P w K mg base j x sp ds) (h : j ≤ k) : Cal P w K mg base k x sp ds := by
  obtain ⟨f, fd, ps, us, F, a, b, d, e⟩ := c.ex
  exact ⟨f, fd, ps, us, F.mono h, a, b, d, e⟩
theorem met_md {X : Cx} {j : Nat} (c : Met X.prog X.w X.K X.mg X.base j C m sp []) : KR.MD X j C m sp := by
  obtain ⟨f, fd, ps, us, a, b, F, d, e⟩ := c.ex
  cases e
  exact ⟨f, fd, ps, a, b, F, d⟩
theorem Met.mono' {j : Nat} {ds : List V} (c : Met P w K mg base j C m sp ds) (h : j ≤ k) : Met P w K mg base k C m sp ds := by
  obtain ⟨f, fd, ps, us, a, b, F, d, e⟩ := c.ex
  exact ⟨f, fd, ps, us, a, b, F.mono h, d, e⟩
theorem Cal.imp' {sp' : Sp} {ds : List V} (c : Cal P w K mg base k x sp ds) (h : ∀ vs H Q E, sp' vs H Q E → sp vs H Q E) : Cal P w K mg base k x sp' ds := by
  obtain ⟨f, fd, ps, us, F, a, b, d, e⟩ := c.ex
  exact ⟨f, fd, ps, us, F.imp h, a, b, d, e⟩
end
/-! ### promises by the number of arguments -/
def sp1 (F : V → Hp → VK → Prop) : Sp := fun vs H Q _ => ∃ a, vs = [a] ∧ F a H Q
def sp2 (F : V → V → Hp → VK → Prop) : Sp := fun vs H Q _ => ∃ a b, vs = [a, b] ∧ F a b H Q
def sp3 (F : V → V → V → Hp → VK → Prop) : Sp := fun vs H Q _ => ∃ a b c, vs = [a, b, c] ∧ F a b c H Q
def sp4 (F : V → V → V → V → Hp → VK → Prop) : Sp := fun vs H Q _ => ∃ a b c d, vs = [a, b, c, d] ∧ F a b c d H Q
theorem len1 {F : V → Hp → VK → Prop} {p : Str} : ∀ vs H Q E, sp1 F vs H Q E → vs.length = [p].length := fun _ _ _ _ ⟨_, e, _⟩ => by rw [e]; rfl
theorem len2 {F : V → V → Hp → VK → Prop} {p q : Str} : ∀ vs H Q E, sp2 F vs H Q E → vs.length = [p, q].length := fun _ _ _ _ ⟨_, _, e, _⟩ => by rw [e]; rfl
theorem len3 {F : V → V → V → Hp → VK → Prop} {p q r : Str} : ∀ vs H Q E, sp3 F vs H Q E → vs.length = [p, q, r].length := fun _ _ _ _ ⟨_, _, _, e, _⟩ => by rw [e]; rfl
theorem len4 {F : V → V → V → V → Hp → VK → Prop} {p q r s : Str} : ∀ vs H Q E, sp4 F vs H Q E → vs.length = [p, q, r, s].length := fun _ _ _ _ ⟨_, _, _, _, e, _⟩ => by rw [e]; rfl
/-! ### heaps: tuples stay -/
def TS (H H' : Hp) : Prop := ∀ b xs, H b = some (.tup xs) → H' b = some (.tup xs)
theorem TS.refl (H : Hp) : TS H H := fun _ _ h => h
theorem TS.trans {H H1 H2 : Hp} (a : TS H H1) (b : TS H1 H2) : TS H H2 := fun c xs h => b c xs (a c xs h)
theorem ts_same {H H' : Hp} (s : Same H H') : TS H H' := fun b xs h => s b _ h
/-- all but t -/
def But (t : Addr) (H H' : Hp) : Prop := ∀ b o, b ≠ t → H b = some o → H' b = some o
theorem But.refl (t : Addr) (H : Hp) : But t H H := fun _ _ _ h => h
theorem But.trans {t : Addr} {H H1 H2 : Hp} (a : But t H H1) (b : But t H1 H2) : But t H H2 := fun c o hc h => b c o hc (a c o hc h)
theorem but_same {t : Addr} {H H' : Hp} (s : Same H H') : But t H H' := fun b o _ h => s b o h
theorem But.ts {t : Addr} {H H' : Hp} {xs : List V} (a : But t H H') (h : H t = some (.lst xs)) : TS H H' := fun b ys e => a b _ (ne_of e h (fun z => nomatch z)) e
theorem same_new {H : Hp} {p : Addr} (h : H p = none) (o : HO) : Same H (upd H p o) := fun b u q => by rw [upd_ne (ne_of_none q h)]; exact q
theorem but_upd {H : Hp} {t : Addr} {o : HO} : But t H (upd H t o) := fun b u hb q => by rw [upd_ne hb]; exact q
/-- data of tuples, texts, ints at a value -/
inductive Dt where
  | str (x : Str)
  | int (i : Int)
  | tup (ds : List Dt)
mutual
def DAt (H : Hp) : Dt → V → Prop
  | .str x, v => v = .str x
  | .int i, v => v = .int i
  | .tup ds, v => ∃ a xs, v = .ref a ∧ H a = some (.tup xs) ∧ DAts H ds xs
def DAts (H : Hp) : List Dt → List V → Prop
  | [], [] => True
  | d :: ds, v :: vs => DAt H d v ∧ DAts H ds vs
  | _, _ => False
end
mutual
theorem DAt.mono {H H' : Hp} (s : TS H H') : ∀ (d : Dt) (v : V), DAt H d v → DAt H' d v
  | .str x, v, h => by rw [DAt] at h ⊢; exact h
  | .int i, v, h => by rw [DAt] at h ⊢; exact h
  | .tup ds, v, h => by
    rw [DAt] at h ⊢
    obtain ⟨a, xs, e, ha, hs⟩ := h
    exact ⟨a, xs, e, s _ _ ha, DAts.mono s ds xs hs⟩
theorem DAts.mono {H H' : Hp} (s : TS H H') : ∀ (ds : List Dt) (vs : List V), DAts H ds vs → DAts H' ds vs
  | [], [], h => h
  | d :: ds, v :: vs, h => by
    rw [DAts] at h ⊢
    exact ⟨DAt.mono s d v h.1, DAts.mono s ds vs h.2⟩
  | [], v :: vs, h => by simp [DAts] at h
  | d :: ds, [], h => by simp [DAts] at h
end
end KG
end
section
set_option Elab.async false
set_option linter.all false
set_option autoImplicit false
set_option maxRecDepth 100000
set_option maxHeartbeats 4000000
/-! ## What stays; comprehensions by what each item is -/
namespace KG
open PySem PySem.Spec PyProof.Rows L2 KM
open C8 (Cal Met Mak pe_c pe_mk pe_mt pe_mt0)
/-- tuples and instances: once made, they stay -/
def isFz : HO → Prop
  | .tup _ => True
  | .ins _ _ _ => True
  | .frz _ (.tup _) => True
  | _ => False
def Fz (H H' : Hp) : Prop := ∀ b o, isFz o → H b = some o → H' b = some o
theorem Fz.refl (H : Hp) : Fz H H := fun _ _ _ h => h
theorem Fz.trans {H H1 H2 : Hp} (a : Fz H H1) (b : Fz H1 H2) : Fz H H2 := fun c o z h => b c o z (a c o z h)
theorem fz_same {H H' : Hp} (s : Same H H') : Fz H H' := fun b o _ h => s b o h
theorem Fz.ts {H H' : Hp} (s : Fz H H') : TS H H' := fun b xs h => s b _ True.intro h
theorem But.fz {t : Addr} {H H' : Hp} {u : HO} (a : But t H H') (h : H t = some u) (nu : ¬ isFz u) : Fz H H' := fun b o z e => a b o (fun q => by
  subst q
  rw [h] at e
  cases e
  exact nu z) e
theorem fz_updL {H : Hp} {t : Addr} {xs : List V} {o : HO} (h : H t = some (.lst xs)) : Fz H (upd H t o) := but_upd.fz h (fun z => z)
theorem fz_new {H : Hp} {t : Addr} {o : HO} (h : H t = none) : Fz H (upd H t o) := fz_same (same_new h o)
theorem DAt.fz {H H' : Hp} {d : Dt} {v : V} (s : Fz H H') (h : DAt H d v) : DAt H' d v := DAt.mono s.ts d v h
theorem DAts.fz {H H' : Hp} {ds : List Dt} {vs : List V} (s : Fz H H') (h : DAts H ds vs) : DAts H' ds vs := DAts.mono s.ts ds vs h
theorem dats_len {H : Hp} : ∀ {ds : List Dt} {vs : List V}, DAts H ds vs → vs.length = ds.length
  | [], [], _ => rfl
  | d :: ds, v :: vs, h => by
    rw [DAts] at h
    rw [List.length_cons, List.length_cons, dats_len h.2]
  | [], v :: vs, h => by simp [DAts] at h
  | d :: ds, [], h => by simp [DAts] at h
theorem dats_get {H : Hp} : ∀ {ds : List Dt} {vs : List V} {i : Nat} {d : Dt}, DAts H ds vs → ds[i]? = some d → ∃ v, vs[i]? = some v ∧ DAt H d v
  | d :: ds, v :: vs, 0, d', h, e => by
    rw [DAts] at h
    have e2 : d = d' := Option.some.inj e
    subst e2
    exact ⟨v, rfl, h.1⟩
  | d :: ds, v :: vs, i + 1, d', h, e => by
    rw [DAts] at h
    obtain ⟨u, h1, h2⟩ := dats_get (i := i) h.2 e
    exact ⟨u, h1, h2⟩
  | [], [], _, _, _, e => by simp at e
  | [], v :: vs, _, _, h, _ => by simp [DAts] at h
  | d :: ds, [], _, _, h, _ => by simp [DAts] at h
theorem dats_of {H : Hp} : ∀ {ds : List Dt} {vs : List V}, vs.length = ds.length → (∀ (i : Nat) (d : Dt) (v : V), ds[i]? = some d → vs[i]? = some v → DAt H d v) → DAts H ds vs
  | [], [], _, _ => by simp [DAts]
  | d :: ds, v :: vs, h, k => by
    rw [DAts]
    exact ⟨k 0 d v rfl rfl, dats_of (by simpa using h) fun i d' v' e1 e2 => k (i + 1) d' v' e1 e2⟩
  | [], v :: vs, h, _ => by simp at h
  | d :: ds, [], h, _ => by simp at h
/-! ### comprehensions -/
theorem wipe_one (σ : L2.St) (i : Nat) (x : V) : wipe ((wipe σ [i]).set i (some x)) [i] = wipe σ [i] := by
  show ((σ.set i none).set i (some x)).set i none = σ.set i none
  rw [List.set_set, List.set_set]
def LcP (Iv : Hp → Prop) (D : Addr) (F : Nat → V → Hp → Prop) (j : Nat) (H : Hp) : Prop := Iv H ∧ ∃ acc, H D = some (.lst acc) ∧ acc.length = j ∧ ∀ m, m < j → ∃ y, acc[m]? = some y ∧ F m y H
/-- by an invariant of the heap; each item has F -/
theorem rd_lcI {J : It} {n : Nat} {G : Hp → Prop} {Y : Nat → Hp → V → Hp → Prop} (w : Walk J n G Y) (hY : ∀ i H x H', Y i H x H' → H' = H) {i : Nat} {te : TE} {σ : L2.St} {H1 : Hp} {D : Addr} {Qd : Hp → Prop} (hD : H1 D = none) (hn : n ≤ 16000000)
    (Iv : Hp → Prop) (F : Nat → V → Hp → Prop) (mono : ∀ i y H H', Fz H H' → F i y H → F i y H') (h0 : Iv (upd H1 D (.lst []))) (hI : ∀ H acc acc', Iv H → H D = some (.lst acc) → Iv (upd H D (.lst acc'))) (hG : ∀ H, Iv H → G H)
    (hs : ∀ j x H acc C, j < n → Y j H x H → Iv H → H D = some (.lst acc) → acc.length = j → (∀ y H4, Iv H4 → H4 D = H D → Fz H H4 → F j y H4 → C y H4) → te ((wipe σ [i]).set i (some x)) H C)
    (hd : ∀ H acc, Iv H → H D = some (.lst acc) → acc.length = n → (∀ j, j < n → ∃ y, acc[j]? = some y ∧ F j y H) → Qd H) :
    ∃ W : Nat → Nat → Hp → Prop, (∃ m, W 0 m (upd H1 D (.lst []))) ∧ ∀ i' m H, W i' m H →
      (J.stop i' H ∧ Qd H) ∨ (J.go i' H ∧ ∃ Nx : Hp → Prop, (∀ H', Nx H' → ∃ m', m' < m ∧ W (i' + 1) m' H') ∧ ∀ x H', J.yld i' H x H' → gName i x (wipe σ [i]) H' fun σ2 H2 => wipe σ2 [i] = wipe σ [i] ∧ tYes σ2 H2 fun b H3 =>
        if b = true then te σ2 H3 fun y H4 => ∃ acc, H4 D = some (.lst acc) ∧ acc.length < sizeLine ∧ Nx (upd H4 D (.lst (acc ++ [y]))) else Nx H3) := by
  refine lc_it w (LcP Iv D F) ⟨h0, [], upd_same, rfl, fun m hm => absurd hm (Nat.not_lt_zero _)⟩ (fun j H _ h => hG H h.1) ?_ ?_
  · rintro j x H H' hj ⟨hi, acc, ha, hl, hf⟩ y
    have e := hY _ _ _ _ y
    subst e
    refine ⟨wipe_one σ i x, ?_⟩
    refine iteT (B := LcP Iv D F (j + 1) H') ?_
    refine (hs j x H' acc _ hj y hi ha hl fun z H4 h1 h2 h3 h4 => ⟨acc, by rw [h2]; exact ha, by rw [hl, sizeLine_eq]; omega, hI H4 acc _ h1 (by rw [h2]; exact ha), acc ++ [z], upd_same, by simp [hl], fun m hm => ?_⟩)
    have fz : Fz H4 (upd H4 D (.lst (acc ++ [z]))) := fz_updL (by rw [h2]; exact ha)
    by_cases hm2 : m < j
    · obtain ⟨y', e1, e2⟩ := hf m hm2
      exact ⟨y', by rw [List.getElem?_append_left (by omega)]; exact e1, mono m y' _ _ fz (mono m y' _ _ h3 e2)⟩
    · have : m = j := by omega
      subst this
      exact ⟨z, by rw [List.getElem?_append_right (by omega), hl]; simp, mono m z _ _ fz h4⟩
  · rintro H ⟨hi, acc, ha, hl, hf⟩
    exact hd H acc hi ha hl hf
/-- nothing but new objects -/
theorem rd_lc {J : It} {n : Nat} {G : Hp → Prop} {Y : Nat → Hp → V → Hp → Prop} (w : Walk J n G Y) (hY : ∀ i H x H', Y i H x H' → H' = H) {i : Nat} {te : TE} {σ : L2.St} {H1 : Hp} {D : Addr} {Qd : Hp → Prop} (hD : H1 D = none) (hn : n ≤ 16000000)
    (F : Nat → V → Hp → Prop) (mono : ∀ i y H H', Fz H H' → F i y H → F i y H') (hG : ∀ H, Same H1 H → G H)
    (hs : ∀ j x H C, j < n → Y j H x H → Same H1 H → (∀ y H4, Same H H4 → F j y H4 → C y H4) → te ((wipe σ [i]).set i (some x)) H C)
    (hd : ∀ H acc, Same H1 H → H D = some (.lst acc) → acc.length = n → (∀ j, j < n → ∃ y, acc[j]? = some y ∧ F j y H) → Qd H) :
    ∃ W : Nat → Nat → Hp → Prop, (∃ m, W 0 m (upd H1 D (.lst []))) ∧ ∀ i' m H, W i' m H →
      (J.stop i' H ∧ Qd H) ∨ (J.go i' H ∧ ∃ Nx : Hp → Prop, (∀ H', Nx H' → ∃ m', m' < m ∧ W (i' + 1) m' H') ∧ ∀ x H', J.yld i' H x H' → gName i x (wipe σ [i]) H' fun σ2 H2 => wipe σ2 [i] = wipe σ [i] ∧ tYes σ2 H2 fun b H3 =>
        if b = true then te σ2 H3 fun y H4 => ∃ acc, H4 D = some (.lst acc) ∧ acc.length < sizeLine ∧ Nx (upd H4 D (.lst (acc ++ [y]))) else Nx H3) :=
  rd_lcI w hY hD hn (Same H1) F mono (same_new hD _) (fun H acc acc' h _ b o e => by rw [upd_ne (ne_of_none e hD)]; exact h b o e) hG
    (fun j x H acc C hj y h ha _ k => hs j x H C hj y h fun z H4 s f => k z H4 (h.trans s) (by rw [ha]; exact s _ _ ha) (fz_same s) f) hd
theorem yat_eq {xs : List V} : ∀ i H x H', YAt xs i H x H' → H' = H := fun _ _ _ _ h => h.1
theorem yfn_eq {f : Nat → V} : ∀ i H x H', YFn f i H x H' → H' = H := fun _ _ _ _ h => h.1
/-! ### patterns in the heap -/
def kdOf : Pat → Kd
  | .one _ => .one
  | .chain _ => .chain
  | .choice _ => .choice
  | .times _ _ _ => .times
  | .mixed _ => .mixed
def hiV : Option Nat → V
  | none => .non
  | some h => .int h
def hiI : Option Nat → Int
  | none => -1
  | some h => h
def fsT (b : Addr) (lo : Nat) (hi : Option Nat) : List (Str × V) := putF "high" (hiV hi) (putF "low" (.int lo) (putF "part" (.ref b) []))
mutual
def PatAt (N : Nm) (H : Hp) : Pat → Addr → Prop
  | .one f, a => ∃ dx, H a = some (.ins (N.c .one) dx [("form", .str f)])
  | .chain ps, a => ∃ dx t bs, H a = some (.ins (N.c .chain) dx [("parts", .ref t)]) ∧ H t = some (.tup (bs.map V.ref)) ∧ PatsAt N H ps bs
  | .choice ps, a => ∃ dx t bs, H a = some (.ins (N.c .choice) dx [("parts", .ref t)]) ∧ H t = some (.tup (bs.map V.ref)) ∧ PatsAt N H ps bs
  | .times p lo hi, a => ∃ dx b, H a = some (.ins (N.c .times) dx (fsT b lo hi)) ∧ PatAt N H p b
  | .mixed ps, a => ∃ dx t bs, H a = some (.ins (N.c .mixed) dx [("parts", .ref t)]) ∧ H t = some (.tup (bs.map V.ref)) ∧ PatsAt N H ps bs
def PatsAt (N : Nm) (H : Hp) : List Pat → List Addr → Prop
  | [], [] => True
  | p :: ps, a :: as => PatAt N H p a ∧ PatsAt N H ps as
  | _, _ => False
end
section
variable {N : Nm} {H H' : Hp}
mutual
theorem PatAt.mono (s : Fz H H') : ∀ (p : Pat) (a : Addr), PatAt N H p a → PatAt N H' p a
  | .one f, a, h => by
    rw [PatAt] at h ⊢
    obtain ⟨dx, e⟩ := h
    exact ⟨dx, s _ _ True.intro e⟩
  | .chain ps, a, h => by
    rw [PatAt] at h ⊢
    obtain ⟨dx, t, bs, e1, e2, e3⟩ := h
    exact ⟨dx, t, bs, s _ _ True.intro e1, s _ _ True.intro e2, PatsAt.mono s ps bs e3⟩
  | .choice ps, a, h => by
    rw [PatAt] at h ⊢
    obtain ⟨dx, t, bs, e1, e2, e3⟩ := h
    exact ⟨dx, t, bs, s _ _ True.intro e1, s _ _ True.intro e2, PatsAt.mono s ps bs e3⟩
  | .times p lo hi, a, h => by
    rw [PatAt] at h ⊢
    obtain ⟨dx, b, e1, e2⟩ := h
    exact ⟨dx, b, s _ _ True.intro e1, PatAt.mono s p b e2⟩
  | .mixed ps, a, h => by
    rw [PatAt] at h ⊢
    obtain ⟨dx, t, bs, e1, e2, e3⟩ := h
    exact ⟨dx, t, bs, s _ _ True.intro e1, s _ _ True.intro e2, PatsAt.mono s ps bs e3⟩
theorem PatsAt.mono (s : Fz H H') : ∀ (ps : List Pat) (as : List Addr), PatsAt N H ps as → PatsAt N H' ps as
  | [], [], h => by simp [PatsAt]
  | p :: ps, a :: as, h => by
    rw [PatsAt] at h ⊢
    exact ⟨PatAt.mono s p a h.1, PatsAt.mono s ps as h.2⟩
  | [], a :: as, h => by simp [PatsAt] at h
  | p :: ps, [], h => by simp [PatsAt] at h
end
theorem PatAt.fz {p : Pat} {a : Addr} (s : Fz H H') (h : PatAt N H p a) : PatAt N H' p a := PatAt.mono s p a h
theorem PatsAt.fz {ps : List Pat} {as : List Addr} (s : Fz H H') (h : PatsAt N H ps as) : PatsAt N H' ps as := PatsAt.mono s ps as h
theorem pats_len : ∀ {ps : List Pat} {as : List Addr}, PatsAt N H ps as → as.length = ps.length
  | [], [], _ => rfl
  | p :: ps, a :: as, h => by
    rw [PatsAt] at h
    rw [List.length_cons, List.length_cons, pats_len h.2]
  | [], a :: as, h => by simp [PatsAt] at h
  | p :: ps, [], h => by simp [PatsAt] at h
theorem pats_get : ∀ {ps : List Pat} {as : List Addr} {i : Nat} {a : Addr}, PatsAt N H ps as → as[i]? = some a → ∃ p, ps[i]? = some p ∧ PatAt N H p a
  | p :: ps, a :: as, 0, a', h, e => by
    rw [PatsAt] at h
    have e2 : a = a' := Option.some.inj e
    subst e2
    exact ⟨p, rfl, h.1⟩
  | p :: ps, a :: as, i + 1, a', h, e => by
    rw [PatsAt] at h
    obtain ⟨u, h1, h2⟩ := pats_get (i := i) h.2 e
    exact ⟨u, h1, h2⟩
  | [], [], _, _, _, e => by simp at e
  | [], a :: as, _, _, h, _ => by simp [PatsAt] at h
  | p :: ps, [], _, _, h, _ => by simp [PatsAt] at h
theorem pats_of : ∀ {ps : List Pat} {as : List Addr}, as.length = ps.length → (∀ (i : Nat) (p : Pat) (a : Addr), ps[i]? = some p → as[i]? = some a → PatAt N H p a) → PatsAt N H ps as
  | [], [], _, _ => by simp [PatsAt]
  | p :: ps, a :: as, h, k => by
    rw [PatsAt]
    exact ⟨k 0 p a rfl rfl, pats_of (by simpa using h) fun i d' v' e1 e2 => k (i + 1) d' v' e1 e2⟩
  | [], a :: as, h, _ => by simp at h
  | p :: ps, [], h, _ => by simp at h
theorem pats_app : ∀ {ps qs : List Pat} {as bs : List Addr}, PatsAt N H ps as → PatsAt N H qs bs → PatsAt N H (ps ++ qs) (as ++ bs)
  | [], qs, [], bs, _, h => h
  | p :: ps, qs, a :: as, bs, h, k => by
    rw [PatsAt] at h
    rw [List.cons_append, List.cons_append, PatsAt]
    exact ⟨h.1, pats_app h.2 k⟩
  | [], _, a :: as, _, h, _ => by simp [PatsAt] at h
  | p :: ps, _, [], _, h, _ => by simp [PatsAt] at h
theorem pats_drop : ∀ {ps : List Pat} {as : List Addr} (n : Nat), PatsAt N H ps as → PatsAt N H (ps.drop n) (as.drop n)
  | _, _, 0, h => h
  | [], [], n + 1, h => h
  | p :: ps, a :: as, n + 1, h => by
    rw [PatsAt] at h
    exact pats_drop n h.2
  | [], a :: as, n + 1, h => by simp [PatsAt] at h
  | p :: ps, [], n + 1, h => by simp [PatsAt] at h
theorem pats_take : ∀ {ps : List Pat} {as : List Addr} (n : Nat), PatsAt N H ps as → PatsAt N H (ps.take n) (as.take n)
  | _, _, 0, h => by simp [PatsAt]
  | [], [], n + 1, h => h
  | p :: ps, a :: as, n + 1, h => by
    rw [PatsAt] at h
    rw [List.take_succ_cons, List.take_succ_cons, PatsAt]
    exact ⟨h.1, pats_take n h.2⟩
  | [], a :: as, n + 1, h => by simp [PatsAt] at h
  | p :: ps, [], n + 1, h => by simp [PatsAt] at h
theorem pats_one {p : Pat} {a : Addr} (h : PatAt N H p a) : PatsAt N H [p] [a] := by
  rw [PatsAt]
  exact ⟨h, by simp [PatsAt]⟩
theorem fsT_no {b : Addr} {lo : Nat} {hi : Option Nat} {m : Str} (h1 : ¬ m = "high") (h2 : ¬ m = "low") (h3 : ¬ m = "part") : (fsT b lo hi).lookup m = none := by
  unfold fsT
  rw [lookup_putF, if_neg h1, lookup_putF, if_neg h2, lookup_putF, if_neg h3]
  rfl
theorem fsT_part {b : Addr} {lo : Nat} {hi : Option Nat} : (fsT b lo hi).lookup ("part" : Str) = some (.ref b) := by
  unfold fsT
  rw [lookup_putF, if_neg (by decide +kernel), lookup_putF, if_neg (by decide +kernel), lookup_putF, if_pos rfl]
theorem fsT_low {b : Addr} {lo : Nat} {hi : Option Nat} : (fsT b lo hi).lookup ("low" : Str) = some (.int lo) := by
  unfold fsT
  rw [lookup_putF, if_neg (by decide +kernel), lookup_putF, if_pos rfl]
theorem fsT_high {b : Addr} {lo : Nat} {hi : Option Nat} : (fsT b lo hi).lookup ("high" : Str) = some (hiV hi) := by
  unfold fsT
  rw [lookup_putF, if_pos rfl]
theorem look1 {f g : Str} {v : V} (h : ¬ g = f) : ([(f, v)] : List (Str × V)).lookup g = none := by
  show (putF f v []).lookup g = none
  rw [lookup_putF, if_neg h]
  rfl
/-- the four methods' names are no attributes -/
theorem pat_ins {p : Pat} {a : Addr} (h : PatAt N H p a) : ∃ dx fs, H a = some (.ins (N.c (kdOf p)) dx fs) ∧ fs.lookup ("told" : Str) = none ∧ fs.lookup ("bare" : Str) = none ∧ fs.lookup ("left" : Str) = none ∧ fs.lookup ("speaks" : Str) = none := by
  cases p with
  | one f =>
    rw [PatAt] at h
    obtain ⟨dx, e⟩ := h
    exact ⟨dx, _, e, look1 (by decide +kernel), look1 (by decide +kernel), look1 (by decide +kernel), look1 (by decide +kernel)⟩
  | chain ps =>
    rw [PatAt] at h
    obtain ⟨dx, t, bs, e, _⟩ := h
    exact ⟨dx, _, e, look1 (by decide +kernel), look1 (by decide +kernel), look1 (by decide +kernel), look1 (by decide +kernel)⟩
  | choice ps =>
    rw [PatAt] at h
    obtain ⟨dx, t, bs, e, _⟩ := h
    exact ⟨dx, _, e, look1 (by decide +kernel), look1 (by decide +kernel), look1 (by decide +kernel), look1 (by decide +kernel)⟩
  | times p lo hi =>
    rw [PatAt] at h
    obtain ⟨dx, b, e, _⟩ := h
    exact ⟨dx, _, e, fsT_no (by decide +kernel) (by decide +kernel) (by decide +kernel), fsT_no (by decide +kernel) (by decide +kernel) (by decide +kernel), fsT_no (by decide +kernel) (by decide +kernel) (by decide +kernel), fsT_no (by decide +kernel) (by decide +kernel) (by decide +kernel)⟩
  | mixed ps =>
    rw [PatAt] at h
    obtain ⟨dx, t, bs, e, _⟩ := h
    exact ⟨dx, _, e, look1 (by decide +kernel), look1 (by decide +kernel), look1 (by decide +kernel), look1 (by decide +kernel)⟩
end
/-! ### what is told of a pattern -/
mutual
def toldD : Pat → Dt
  | .one f => .tup [.str "one", .str f]
  | .chain ps => .tup [.str "chain", .tup (toldDs ps)]
  | .choice ps => .tup [.str "choice", .tup (toldDs ps)]
  | .times p lo hi => .tup [.str "times", toldD p, .int lo, .int (hiI hi)]
  | .mixed ps => .tup [.str "mixed", .tup (toldDs ps)]
def toldDs : List Pat → List Dt
  | [] => []
  | p :: ps => toldD p :: toldDs ps
end
theorem toldDs_map (ps : List Pat) : toldDs ps = ps.map toldD := by
  induction ps with
  | nil => rfl
  | cons p ps ih => rw [toldDs, ih]; rfl
/-- small and well made -/
def Sm (p : Pat) : Prop := Cn p ∧ sz p ≤ 1000
theorem sm_parts {p : Pat} {ps : List Pat} (h : Sm p) (e : p = .chain ps ∨ p = .choice ps ∨ p = .mixed ps) : (∀ q ∈ ps, Sm q) ∧ ps.length ≤ 1000 ∧ szs ps ≤ 1000 ∧ dps ps + 1 = dp p := by
  obtain ⟨hc, hz⟩ := h
  have key : szs ps ≤ 1000 → (∀ q ∈ ps, Cn q) → (∀ q ∈ ps, Sm q) ∧ ps.length ≤ 1000 ∧ szs ps ≤ 1000 := fun h1 h2 => ⟨fun q hq => ⟨h2 q hq, by have := szs_mem hq; omega⟩, by have := szs_len ps; omega, h1⟩
  rcases e with e | e | e
  · subst e
    rw [sz] at hz
    obtain ⟨a, b, c⟩ := key (by omega) (cn_chain hc)
    exact ⟨a, b, c, by rw [dp]⟩
  · subst e
    rw [sz] at hz
    obtain ⟨a, b, c⟩ := key (by omega) (cn_choice hc)
    exact ⟨a, b, c, by rw [dp]⟩
  · subst e
    rw [sz] at hz
    obtain ⟨a, b, c⟩ := key (by omega) (cn_mixed hc)
    exact ⟨a, b, c, by rw [dp]⟩
theorem sm_times {p : Pat} {lo : Nat} {hi : Option Nat} (h : Sm (.times p lo hi)) : Sm p ∧ dp p + 1 = dp (.times p lo hi) ∧ CntOk lo hi := by
  obtain ⟨hc, hz⟩ := h
  rw [sz] at hz
  refine ⟨⟨cn_times hc, by omega⟩, by rw [dp], ?_⟩
  rw [Cn] at hc
  exact hc.2.2.1
end KG
end
section
set_option Elab.async false
set_option linter.all false
set_option autoImplicit false
set_option maxRecDepth 100000
set_option maxHeartbeats 4000000
namespace KG
open PySem PySem.Spec PyProof.Rows L2 KM
structure Tx (K : PySem.W.Frag) (mg : Str → Option Value) (N : Nm) : Prop where
  z_len : mg "len" = none
  z_range : mg "range" = none
  z_tuple : mg "tuple" = none
  z_list : mg "list" = none
  z_all : mg "all" = none
  z_any : mg "any" = none
  z_sorted : mg "sorted" = none
  z_set : mg "set" = none
  z_isinstance : mg "isinstance" = none
  z_str : mg "str" = none
  z_int : mg "int" = none
  z_max : mg "max" = none
  z_min : mg "min" = none
  z_zip : mg "zip" = none
  states : ∃ t, mg "STATES" = some (.int 64 t)
  rules : ∃ t, mg "RULES" = some (.int 8 t)
  cl_One : Cls K (N.c .one)
  g_One : mg "One" = some (.ref (N.c .one))
  na_One_form : NoAttr K (N.c .one) "form"
  cl_Chain : Cls K (N.c .chain)
  g_Chain : mg "Chain" = some (.ref (N.c .chain))
  na_Chain_parts : NoAttr K (N.c .chain) "parts"
  cl_Choice : Cls K (N.c .choice)
  g_Choice : mg "Choice" = some (.ref (N.c .choice))
  na_Choice_parts : NoAttr K (N.c .choice) "parts"
  cl_Times : Cls K (N.c .times)
  g_Times : mg "Times" = some (.ref (N.c .times))
  na_Times_part : NoAttr K (N.c .times) "part"
  na_Times_low : NoAttr K (N.c .times) "low"
  na_Times_high : NoAttr K (N.c .times) "high"
  cl_Mixed : Cls K (N.c .mixed)
  g_Mixed : mg "Mixed" = some (.ref (N.c .mixed))
  na_Mixed_parts : NoAttr K (N.c .mixed) "parts"
  cl_BookGrower : Cls K N.grow
  g_BookGrower : mg "BookGrower" = some (.ref N.grow)
  na_BookGrower_numbers : NoAttr K N.grow "numbers"
  na_BookGrower_states : NoAttr K N.grow "states"
  na_BookGrower_rules : NoAttr K N.grow "rules"
  na_BookGrower_patterns : NoAttr K N.grow "patterns"
  na_BookGrower_behind : NoAttr K N.grow "behind"
  na_BookGrower_formed : NoAttr K N.grow "formed"
  ginit : ∃ f fd, mg "Grower" = some (.ref N.gcls) ∧ ClX.CRead K N.gcls (.type "type") ∧ ClX.CVal K N.gcls (.type "type") "__init__" (.ref f) (.ref f) ∧ FunD K "__init__" "Grower.__init__" (defArgs sGrowerInit) (defBody sGrowerInit) (defScope sGrowerInit) [] [] f fd
  m_BookGrower_number : MetT K N.grow "number" "Grower.number" sGrowerNumber
  m_BookGrower_tables : MetT K N.grow "tables" "Grower.tables" sGrowerTables
  d_mark_of : DefT K mg "mark_of" sMarkOf
  d_start_of : DefT K mg "start_of" sStartOf
  k_One : MakT K mg "One" "One.__init__" (N.c .one) sOneInit
  m_One_told : MetT K (N.c .one) "told" "One.told" sOneTold
  m_One_bare : MetT K (N.c .one) "bare" "One.bare" sOneBare
  m_One_left : MetT K (N.c .one) "left" "One.left" sOneLeft
  m_One_speaks : MetT K (N.c .one) "speaks" "One.speaks" sOneSpeaks
  k_Chain : MakT K mg "Chain" "Chain.__init__" (N.c .chain) sChainInit
  m_Chain_told : MetT K (N.c .chain) "told" "Chain.told" sChainTold
  m_Chain_bare : MetT K (N.c .chain) "bare" "Chain.bare" sChainBare
  m_Chain_left : MetT K (N.c .chain) "left" "Chain.left" sChainLeft
  m_Chain_speaks : MetT K (N.c .chain) "speaks" "Chain.speaks" sChainSpeaks
  k_Choice : MakT K mg "Choice" "Choice.__init__" (N.c .choice) sChoiceInit
  m_Choice_told : MetT K (N.c .choice) "told" "Choice.told" sChoiceTold
  m_Choice_bare : MetT K (N.c .choice) "bare" "Choice.bare" sChoiceBare
  m_Choice_left : MetT K (N.c .choice) "left" "Choice.left" sChoiceLeft
  m_Choice_speaks : MetT K (N.c .choice) "speaks" "Choice.speaks" sChoiceSpeaks
  k_Times : MakT K mg "Times" "Times.__init__" (N.c .times) sTimesInit
  m_Times_told : MetT K (N.c .times) "told" "Times.told" sTimesTold
  m_Times_bare : MetT K (N.c .times) "bare" "Times.bare" sTimesBare
  m_Times_left : MetT K (N.c .times) "left" "Times.left" sTimesLeft
  m_Times_speaks : MetT K (N.c .times) "speaks" "Times.speaks" sTimesSpeaks
  k_Mixed : MakT K mg "Mixed" "Mixed.__init__" (N.c .mixed) sMixedInit
  m_Mixed_told : MetT K (N.c .mixed) "told" "Mixed.told" sMixedTold
  m_Mixed_bare : MetT K (N.c .mixed) "bare" "Mixed.bare" sMixedBare
  m_Mixed_left : MetT K (N.c .mixed) "left" "Mixed.left" sMixedLeft
  m_Mixed_speaks : MetT K (N.c .mixed) "speaks" "Mixed.speaks" sMixedSpeaks
  d_tolds : DefT K mg "tolds" sTolds
  d_all_spoken : DefT K mg "all_spoken" sAllSpoken
  d_penned : DefT K mg "penned" sPenned
  d_each_once : DefT K mg "each_once" sEachOnce
  d_is_empty : DefT K mg "is_empty" sIsEmpty
  d_one : DefT K mg "one" sOne
  d_chain : DefT K mg "chain" sChain
  d_choice : DefT K mg "choice" sChoice
  d_times : ∃ f fd, FunD K "times" "times" (defArgs sTimes) (defBody sTimes) (defScope sTimes) [.int 0, .non] [] f fd ∧ mg "times" = some (.ref f)
  d_mixed : DefT K mg "mixed" sMixed
  d_pattern_of : DefT K mg "pattern_of" sPatternOf
  d_all_left : DefT K mg "all_left" sAllLeft
  d_any_bare : DefT K mg "any_bare" sAnyBare
  d_key_of : DefT K mg "key_of" sKeyOf
  k_BookGrower : MakT K mg "BookGrower" "BookGrower.__init__" N.grow sBookgrowerInit
  m_BookGrower_kept : MetT K N.grow "kept" "BookGrower.kept" sBookgrowerKept
  m_BookGrower_start : MetT K N.grow "start" "BookGrower.start" sBookgrowerStart
  m_BookGrower_ends : MetT K N.grow "ends" "BookGrower.ends" sBookgrowerEnds
  m_BookGrower_goes_on : MetT K N.grow "goes_on" "BookGrower.goes_on" sBookgrowerGoesOn
  m_BookGrower_forms_here : MetT K N.grow "forms_here" "BookGrower.forms_here" sBookgrowerFormsHere
  m_BookGrower_step : MetT K N.grow "step" "BookGrower.step" sBookgrowerStep
  d_machine_of : DefT K mg "machine_of" sMachineOf
  d_state_of : DefT K mg "state_of" sStateOf
  d_forms_of : DefT K mg "forms_of" sFormsOf
  d_mark_below : DefT K mg "mark_below" sMarkBelow
  d_marked : DefT K mg "marked" sMarked
  d_book_of : DefT K mg "book_of" sBookOf
  d_law_cell_at : DefT K mg "_law_cell_at" sLawCellAt
  d_law_mix : DefT K mg "_law_mix" sLawMix
  d_law_tape : DefT K mg "_law_tape" sLawTape
  d_law_next : DefT K mg "_law_next" sLawNext
  d_law_names : DefT K mg "_law_names" sLawNames
  d_law_joined : DefT K mg "_law_joined" sLawJoined
  d_law_so_many : DefT K mg "_law_so_many" sLawSoMany
  d_law_part : DefT K mg "_law_part" sLawPart
  d_law_tags : DefT K mg "_law_tags" sLawTags
  d_law_rules : DefT K mg "_law_rules" sLawRules
  d_law_merged : DefT K mg "_law_merged" sLawMerged
  d_law_made_row : DefT K mg "_law_made_row" sLawMadeRow
  d_law_changed : DefT K mg "_law_changed" sLawChanged
  d_law_near : DefT K mg "_law_near" sLawNear
  d_law_times_fit : DefT K mg "_law_times_fit" sLawTimesFit
  d_law_mixed_fit : DefT K mg "_law_mixed_fit" sLawMixedFit
  d_law_fits : DefT K mg "_law_fits" sLawFits
  d_law_sets : DefT K mg "_law_sets" sLawSets
  d_law_list : DefT K mg "_law_list" sLawList
  d_law_order : DefT K mg "_law_order" sLawOrder
  d_law_place_told : DefT K mg "_law_place_told" sLawPlaceTold
  d_law : DefT K mg "law" sLaw
  many : mg "TooMany" = some (.ref N.many) ∧ PySem.W.excIn K N.many [.type "ValueError", .type "Exception", .type "BaseException", .type "object"] "ValueError.__new__" = true ∧ PySem.W.keepIn K (.ref N.many) = true ∧ PySem.W.subIn K (.ref N.many) (.type "BaseException") = some true ∧ PySem.W.typeIn K (.ref N.many) = some (.type "type") ∧ PySem.W.exmOne K (.ref N.many) (.ref N.many) = some true
  isc : PySem.W.specialIn K (.builtin "object.__class__") "__get__" = some (some (.builtin "getset_descriptor.__get__")) ∧ PySem.W.takesIn K (.builtin "object.__class__") = some true
  iscl : ∀ k, PySem.W.findIn K (.ref (N.c k)) "__class__" = some (some (.builtin "object.__class__")) ∧ PySem.W.mroIn K (N.c k) (.type "object") = some true ∧ PySem.W.keepIn K (.ref (N.c k)) = true
  isk : ∀ k j, PySem.W.kitOne K (.ref (N.c k)) (.ref (N.c j)) = some (decide (k = j))
def nmC (K : PySem.W.Frag) : Kd → Addr
  | .one => He.ga K "One"
  | .chain => He.ga K "Chain"
  | .choice => He.ga K "Choice"
  | .times => He.ga K "Times"
  | .mixed => He.ga K "Mixed"
def nm (K : PySem.W.Frag) : Nm := ⟨nmC K, He.ga K "BookGrower", He.ga K "Grower", He.ga K "TooMany"⟩
set_option linter.unusedVariables false in
theorem tx_of {K : PySem.W.Frag} {h : Heap} {mg : Str → Option Value} (X : K.In h) (G : h.Ns mainGlobals mg) (c : He.SaysD fa fn K) (e : ex K = true) : Tx K mg (nm K) := by
  obtain ⟨e1, e⟩ := He.ba e
  obtain ⟨e2, e⟩ := He.ba e
  obtain ⟨e3, e⟩ := He.ba e
  obtain ⟨e4, e⟩ := He.ba e
  obtain ⟨e5, e⟩ := He.ba e
  obtain ⟨e6, e⟩ := He.ba e
  obtain ⟨e7, e8⟩ := He.ba e
  have e2 := of_decide_eq_true e2
  have e4 := of_decide_eq_true e4
  have e5 := of_decide_eq_true e5
  have e3 : PySem.W.findCls K (.ref (He.ga K "Grower")) (.type "type") "__init__" = some (.val (.ref (He.ma K (He.ga K "Grower") "__init__"))) := by
    split at e3
    · rename_i a q
      rw [q, of_decide_eq_true e3]
    · cases e3
  have mem : ∀ k : Kd, ∃ x ∈ pcl, nmC K k = He.ga K x ∧ ∀ j : Kd, ∃ y ∈ pcl, nmC K j = He.ga K y ∧ (decide (x = y) = decide (k = j)) := by
    have ix : ∀ k : Kd, ∃ x ∈ pcl, nmC K k = He.ga K x ∧ x = (match k with | .one => "One" | .chain => "Chain" | .choice => "Choice" | .times => "Times" | .mixed => "Mixed") := by
      intro k
      cases k
      · exact ⟨"One", List.mem_cons_self, rfl, rfl⟩
      · exact ⟨"Chain", List.mem_cons_of_mem _ List.mem_cons_self, rfl, rfl⟩
      · exact ⟨"Choice", List.mem_cons_of_mem _ (List.mem_cons_of_mem _ List.mem_cons_self), rfl, rfl⟩
      · exact ⟨"Times", List.mem_cons_of_mem _ (List.mem_cons_of_mem _ (List.mem_cons_of_mem _ List.mem_cons_self)), rfl, rfl⟩
      · exact ⟨"Mixed", List.mem_cons_of_mem _ (List.mem_cons_of_mem _ (List.mem_cons_of_mem _ (List.mem_cons_of_mem _ List.mem_cons_self))), rfl, rfl⟩
    intro k
    obtain ⟨x, h1, h2, h3⟩ := ix k
    refine ⟨x, h1, h2, fun j => ?_⟩
    obtain ⟨y, g1, g2, g3⟩ := ix j
    refine ⟨y, g1, g2, ?_⟩
    rw [h3, g3]
    cases k <;> cases j <;> decide +kernel
  have e6 : ∀ k, PySem.W.findIn K (.ref ((nm K).c k)) "__class__" = some (some (.builtin "object.__class__")) ∧ PySem.W.mroIn K ((nm K).c k) (.type "object") = some true ∧ PySem.W.keepIn K (.ref ((nm K).c k)) = true := by
    intro k
    obtain ⟨x, hx, hk, _⟩ := mem k
    obtain ⟨a, b⟩ := He.ba (List.all_eq_true.mp e6 x hx)
    show PySem.W.findIn K (.ref (nmC K k)) "__class__" = _ ∧ PySem.W.mroIn K (nmC K k) (.type "object") = _ ∧ PySem.W.keepIn K (.ref (nmC K k)) = true
    rw [hk]
    exact ⟨of_decide_eq_true a, of_decide_eq_true b, List.all_eq_true.mp e8 x hx⟩
  have e7 : ∀ k j, PySem.W.kitOne K (.ref ((nm K).c k)) (.ref ((nm K).c j)) = some (decide (k = j)) := by
    intro k j
    obtain ⟨x, hx, hk, q⟩ := mem k
    obtain ⟨y, hy, hj, q2⟩ := q j
    have := of_decide_eq_true (List.all_eq_true.mp (List.all_eq_true.mp e7 x hx) y hy)
    show PySem.W.kitOne K (.ref (nmC K k)) (.ref (nmC K j)) = _
    rw [hk, hj, this, q2]
  exact {
    z_len := He.free_ok X G (c.fact 56 rfl),
    z_range := He.free_ok X G (c.fact 57 rfl),
    z_tuple := He.free_ok X G (c.fact 58 rfl),
    z_list := He.free_ok X G (c.fact 59 rfl),
    z_all := He.free_ok X G (c.fact 60 rfl),
    z_any := He.free_ok X G (c.fact 61 rfl),
    z_sorted := He.free_ok X G (c.fact 62 rfl),
    z_set := He.free_ok X G (c.fact 63 rfl),
    z_isinstance := He.free_ok X G (c.fact 64 rfl),
    z_str := He.free_ok X G (c.fact 65 rfl),
    z_int := He.free_ok X G (c.fact 66 rfl),
    z_max := He.free_ok X G (c.fact 67 rfl),
    z_min := He.free_ok X G (c.fact 68 rfl),
    z_zip := He.free_ok X G (c.fact 69 rfl),
    states := He.int_ok X G (c.fact 70 rfl),
    rules := He.int_ok X G (c.fact 71 rfl),
    cl_One := He.cls_ok (c.fact 72 rfl),
    g_One := He.glo_ok X G (c.fact 8 rfl),
    na_One_form := He.noat_ok (c.fact 84 rfl),
    cl_Chain := He.cls_ok (c.fact 74 rfl),
    g_Chain := He.glo_ok X G (c.fact 9 rfl),
    na_Chain_parts := He.noat_ok (c.fact 85 rfl),
    cl_Choice := He.cls_ok (c.fact 76 rfl),
    g_Choice := He.glo_ok X G (c.fact 10 rfl),
    na_Choice_parts := He.noat_ok (c.fact 86 rfl),
    cl_Times := He.cls_ok (c.fact 78 rfl),
    g_Times := He.glo_ok X G (c.fact 11 rfl),
    na_Times_part := He.noat_ok (c.fact 87 rfl),
    na_Times_low := He.noat_ok (c.fact 88 rfl),
    na_Times_high := He.noat_ok (c.fact 89 rfl),
    cl_Mixed := He.cls_ok (c.fact 80 rfl),
    g_Mixed := He.glo_ok X G (c.fact 12 rfl),
    na_Mixed_parts := He.noat_ok (c.fact 90 rfl),
    cl_BookGrower := He.cls_ok (c.fact 82 rfl),
    g_BookGrower := He.glo_ok X G (c.fact 27 rfl),
    na_BookGrower_numbers := He.noat_ok (c.fact 91 rfl),
    na_BookGrower_states := He.noat_ok (c.fact 92 rfl),
    na_BookGrower_rules := He.noat_ok (c.fact 93 rfl),
    na_BookGrower_patterns := He.noat_ok (c.fact 94 rfl),
    na_BookGrower_behind := He.noat_ok (c.fact 95 rfl),
    na_BookGrower_formed := He.noat_ok (c.fact 96 rfl),
    ginit := (c.def_ 0 rfl).elim fun fd F => ⟨_, fd, He.glo_ok X G (c.fact 4 rfl), ⟨e1, e2⟩, ⟨e3, rfl⟩, F⟩,
    m_BookGrower_number := ⟨(c.def_ 1 rfl).elim fun fd F => ⟨_, fd, He.cls_ok (c.fact 82 rfl), He.meth_ok (c.fact 117 rfl), F⟩⟩,
    m_BookGrower_tables := ⟨(c.def_ 2 rfl).elim fun fd F => ⟨_, fd, He.cls_ok (c.fact 82 rfl), He.meth_ok (c.fact 118 rfl), F⟩⟩,
    d_mark_of := ⟨(c.def_ 3 rfl).elim fun fd F => ⟨_, fd, F, He.glo_ok X G (c.fact 5 rfl)⟩⟩,
    d_start_of := ⟨(c.def_ 4 rfl).elim fun fd F => ⟨_, fd, F, He.glo_ok X G (c.fact 6 rfl)⟩⟩,
    k_One := ⟨(c.def_ 5 rfl).elim fun fd F => ⟨_, fd, He.mkr_ok (c.fact 73 rfl), He.glo_ok X G (c.fact 8 rfl), F⟩⟩,
    m_One_told := ⟨(c.def_ 6 rfl).elim fun fd F => ⟨_, fd, He.cls_ok (c.fact 72 rfl), He.meth_ok (c.fact 97 rfl), F⟩⟩,
    m_One_bare := ⟨(c.def_ 7 rfl).elim fun fd F => ⟨_, fd, He.cls_ok (c.fact 72 rfl), He.meth_ok (c.fact 98 rfl), F⟩⟩,
    m_One_left := ⟨(c.def_ 8 rfl).elim fun fd F => ⟨_, fd, He.cls_ok (c.fact 72 rfl), He.meth_ok (c.fact 99 rfl), F⟩⟩,
    m_One_speaks := ⟨(c.def_ 9 rfl).elim fun fd F => ⟨_, fd, He.cls_ok (c.fact 72 rfl), He.meth_ok (c.fact 100 rfl), F⟩⟩,
    k_Chain := ⟨(c.def_ 10 rfl).elim fun fd F => ⟨_, fd, He.mkr_ok (c.fact 75 rfl), He.glo_ok X G (c.fact 9 rfl), F⟩⟩,
    m_Chain_told := ⟨(c.def_ 11 rfl).elim fun fd F => ⟨_, fd, He.cls_ok (c.fact 74 rfl), He.meth_ok (c.fact 101 rfl), F⟩⟩,
    m_Chain_bare := ⟨(c.def_ 12 rfl).elim fun fd F => ⟨_, fd, He.cls_ok (c.fact 74 rfl), He.meth_ok (c.fact 102 rfl), F⟩⟩,
    m_Chain_left := ⟨(c.def_ 13 rfl).elim fun fd F => ⟨_, fd, He.cls_ok (c.fact 74 rfl), He.meth_ok (c.fact 103 rfl), F⟩⟩,
    m_Chain_speaks := ⟨(c.def_ 14 rfl).elim fun fd F => ⟨_, fd, He.cls_ok (c.fact 74 rfl), He.meth_ok (c.fact 104 rfl), F⟩⟩,
    k_Choice := ⟨(c.def_ 15 rfl).elim fun fd F => ⟨_, fd, He.mkr_ok (c.fact 77 rfl), He.glo_ok X G (c.fact 10 rfl), F⟩⟩,
    m_Choice_told := ⟨(c.def_ 16 rfl).elim fun fd F => ⟨_, fd, He.cls_ok (c.fact 76 rfl), He.meth_ok (c.fact 105 rfl), F⟩⟩,
    m_Choice_bare := ⟨(c.def_ 17 rfl).elim fun fd F => ⟨_, fd, He.cls_ok (c.fact 76 rfl), He.meth_ok (c.fact 106 rfl), F⟩⟩,
    m_Choice_left := ⟨(c.def_ 18 rfl).elim fun fd F => ⟨_, fd, He.cls_ok (c.fact 76 rfl), He.meth_ok (c.fact 107 rfl), F⟩⟩,
    m_Choice_speaks := ⟨(c.def_ 19 rfl).elim fun fd F => ⟨_, fd, He.cls_ok (c.fact 76 rfl), He.meth_ok (c.fact 108 rfl), F⟩⟩,
    k_Times := ⟨(c.def_ 20 rfl).elim fun fd F => ⟨_, fd, He.mkr_ok (c.fact 79 rfl), He.glo_ok X G (c.fact 11 rfl), F⟩⟩,
    m_Times_told := ⟨(c.def_ 21 rfl).elim fun fd F => ⟨_, fd, He.cls_ok (c.fact 78 rfl), He.meth_ok (c.fact 109 rfl), F⟩⟩,
    m_Times_bare := ⟨(c.def_ 22 rfl).elim fun fd F => ⟨_, fd, He.cls_ok (c.fact 78 rfl), He.meth_ok (c.fact 110 rfl), F⟩⟩,
    m_Times_left := ⟨(c.def_ 23 rfl).elim fun fd F => ⟨_, fd, He.cls_ok (c.fact 78 rfl), He.meth_ok (c.fact 111 rfl), F⟩⟩,
    m_Times_speaks := ⟨(c.def_ 24 rfl).elim fun fd F => ⟨_, fd, He.cls_ok (c.fact 78 rfl), He.meth_ok (c.fact 112 rfl), F⟩⟩,
    k_Mixed := ⟨(c.def_ 25 rfl).elim fun fd F => ⟨_, fd, He.mkr_ok (c.fact 81 rfl), He.glo_ok X G (c.fact 12 rfl), F⟩⟩,
    m_Mixed_told := ⟨(c.def_ 26 rfl).elim fun fd F => ⟨_, fd, He.cls_ok (c.fact 80 rfl), He.meth_ok (c.fact 113 rfl), F⟩⟩,
    m_Mixed_bare := ⟨(c.def_ 27 rfl).elim fun fd F => ⟨_, fd, He.cls_ok (c.fact 80 rfl), He.meth_ok (c.fact 114 rfl), F⟩⟩,
    m_Mixed_left := ⟨(c.def_ 28 rfl).elim fun fd F => ⟨_, fd, He.cls_ok (c.fact 80 rfl), He.meth_ok (c.fact 115 rfl), F⟩⟩,
    m_Mixed_speaks := ⟨(c.def_ 29 rfl).elim fun fd F => ⟨_, fd, He.cls_ok (c.fact 80 rfl), He.meth_ok (c.fact 116 rfl), F⟩⟩,
    d_tolds := ⟨(c.def_ 30 rfl).elim fun fd F => ⟨_, fd, F, He.glo_ok X G (c.fact 13 rfl)⟩⟩,
    d_all_spoken := ⟨(c.def_ 31 rfl).elim fun fd F => ⟨_, fd, F, He.glo_ok X G (c.fact 14 rfl)⟩⟩,
    d_penned := ⟨(c.def_ 32 rfl).elim fun fd F => ⟨_, fd, F, He.glo_ok X G (c.fact 15 rfl)⟩⟩,
    d_each_once := ⟨(c.def_ 33 rfl).elim fun fd F => ⟨_, fd, F, He.glo_ok X G (c.fact 16 rfl)⟩⟩,
    d_is_empty := ⟨(c.def_ 34 rfl).elim fun fd F => ⟨_, fd, F, He.glo_ok X G (c.fact 17 rfl)⟩⟩,
    d_one := ⟨(c.def_ 35 rfl).elim fun fd F => ⟨_, fd, F, He.glo_ok X G (c.fact 18 rfl)⟩⟩,
    d_chain := ⟨(c.def_ 36 rfl).elim fun fd F => ⟨_, fd, F, He.glo_ok X G (c.fact 19 rfl)⟩⟩,
    d_choice := ⟨(c.def_ 37 rfl).elim fun fd F => ⟨_, fd, F, He.glo_ok X G (c.fact 20 rfl)⟩⟩,
    d_times := (c.def_ 38 rfl).elim fun fd F => ⟨_, fd, F, He.glo_ok X G (c.fact 21 rfl)⟩,
    d_mixed := ⟨(c.def_ 39 rfl).elim fun fd F => ⟨_, fd, F, He.glo_ok X G (c.fact 22 rfl)⟩⟩,
    d_pattern_of := ⟨(c.def_ 40 rfl).elim fun fd F => ⟨_, fd, F, He.glo_ok X G (c.fact 23 rfl)⟩⟩,
    d_all_left := ⟨(c.def_ 41 rfl).elim fun fd F => ⟨_, fd, F, He.glo_ok X G (c.fact 24 rfl)⟩⟩,
    d_any_bare := ⟨(c.def_ 42 rfl).elim fun fd F => ⟨_, fd, F, He.glo_ok X G (c.fact 25 rfl)⟩⟩,
    d_key_of := ⟨(c.def_ 43 rfl).elim fun fd F => ⟨_, fd, F, He.glo_ok X G (c.fact 26 rfl)⟩⟩,
    k_BookGrower := ⟨(c.def_ 44 rfl).elim fun fd F => ⟨_, fd, He.mkr_ok (c.fact 83 rfl), He.glo_ok X G (c.fact 27 rfl), F⟩⟩,
    m_BookGrower_kept := ⟨(c.def_ 45 rfl).elim fun fd F => ⟨_, fd, He.cls_ok (c.fact 82 rfl), He.meth_ok (c.fact 119 rfl), F⟩⟩,
    m_BookGrower_start := ⟨(c.def_ 46 rfl).elim fun fd F => ⟨_, fd, He.cls_ok (c.fact 82 rfl), He.meth_ok (c.fact 120 rfl), F⟩⟩,
    m_BookGrower_ends := ⟨(c.def_ 47 rfl).elim fun fd F => ⟨_, fd, He.cls_ok (c.fact 82 rfl), He.meth_ok (c.fact 121 rfl), F⟩⟩,
    m_BookGrower_goes_on := ⟨(c.def_ 48 rfl).elim fun fd F => ⟨_, fd, He.cls_ok (c.fact 82 rfl), He.meth_ok (c.fact 122 rfl), F⟩⟩,
    m_BookGrower_forms_here := ⟨(c.def_ 49 rfl).elim fun fd F => ⟨_, fd, He.cls_ok (c.fact 82 rfl), He.meth_ok (c.fact 123 rfl), F⟩⟩,
    m_BookGrower_step := ⟨(c.def_ 50 rfl).elim fun fd F => ⟨_, fd, He.cls_ok (c.fact 82 rfl), He.meth_ok (c.fact 124 rfl), F⟩⟩,
    d_machine_of := ⟨(c.def_ 51 rfl).elim fun fd F => ⟨_, fd, F, He.glo_ok X G (c.fact 28 rfl)⟩⟩,
    d_state_of := ⟨(c.def_ 52 rfl).elim fun fd F => ⟨_, fd, F, He.glo_ok X G (c.fact 29 rfl)⟩⟩,
    d_forms_of := ⟨(c.def_ 53 rfl).elim fun fd F => ⟨_, fd, F, He.glo_ok X G (c.fact 30 rfl)⟩⟩,
    d_mark_below := ⟨(c.def_ 54 rfl).elim fun fd F => ⟨_, fd, F, He.glo_ok X G (c.fact 31 rfl)⟩⟩,
    d_marked := ⟨(c.def_ 55 rfl).elim fun fd F => ⟨_, fd, F, He.glo_ok X G (c.fact 32 rfl)⟩⟩,
    d_book_of := ⟨(c.def_ 56 rfl).elim fun fd F => ⟨_, fd, F, He.glo_ok X G (c.fact 33 rfl)⟩⟩,
    d_law_cell_at := ⟨(c.def_ 57 rfl).elim fun fd F => ⟨_, fd, F, He.glo_ok X G (c.fact 34 rfl)⟩⟩,
    d_law_mix := ⟨(c.def_ 58 rfl).elim fun fd F => ⟨_, fd, F, He.glo_ok X G (c.fact 35 rfl)⟩⟩,
    d_law_tape := ⟨(c.def_ 59 rfl).elim fun fd F => ⟨_, fd, F, He.glo_ok X G (c.fact 36 rfl)⟩⟩,
    d_law_next := ⟨(c.def_ 60 rfl).elim fun fd F => ⟨_, fd, F, He.glo_ok X G (c.fact 37 rfl)⟩⟩,
    d_law_names := ⟨(c.def_ 61 rfl).elim fun fd F => ⟨_, fd, F, He.glo_ok X G (c.fact 38 rfl)⟩⟩,
    d_law_joined := ⟨(c.def_ 62 rfl).elim fun fd F => ⟨_, fd, F, He.glo_ok X G (c.fact 39 rfl)⟩⟩,
    d_law_so_many := ⟨(c.def_ 63 rfl).elim fun fd F => ⟨_, fd, F, He.glo_ok X G (c.fact 40 rfl)⟩⟩,
    d_law_part := ⟨(c.def_ 64 rfl).elim fun fd F => ⟨_, fd, F, He.glo_ok X G (c.fact 41 rfl)⟩⟩,
    d_law_tags := ⟨(c.def_ 65 rfl).elim fun fd F => ⟨_, fd, F, He.glo_ok X G (c.fact 42 rfl)⟩⟩,
    d_law_rules := ⟨(c.def_ 66 rfl).elim fun fd F => ⟨_, fd, F, He.glo_ok X G (c.fact 43 rfl)⟩⟩,
    d_law_merged := ⟨(c.def_ 67 rfl).elim fun fd F => ⟨_, fd, F, He.glo_ok X G (c.fact 44 rfl)⟩⟩,
    d_law_made_row := ⟨(c.def_ 68 rfl).elim fun fd F => ⟨_, fd, F, He.glo_ok X G (c.fact 45 rfl)⟩⟩,
    d_law_changed := ⟨(c.def_ 69 rfl).elim fun fd F => ⟨_, fd, F, He.glo_ok X G (c.fact 46 rfl)⟩⟩,
    d_law_near := ⟨(c.def_ 70 rfl).elim fun fd F => ⟨_, fd, F, He.glo_ok X G (c.fact 47 rfl)⟩⟩,
    d_law_times_fit := ⟨(c.def_ 71 rfl).elim fun fd F => ⟨_, fd, F, He.glo_ok X G (c.fact 48 rfl)⟩⟩,
    d_law_mixed_fit := ⟨(c.def_ 72 rfl).elim fun fd F => ⟨_, fd, F, He.glo_ok X G (c.fact 49 rfl)⟩⟩,
    d_law_fits := ⟨(c.def_ 73 rfl).elim fun fd F => ⟨_, fd, F, He.glo_ok X G (c.fact 50 rfl)⟩⟩,
    d_law_sets := ⟨(c.def_ 74 rfl).elim fun fd F => ⟨_, fd, F, He.glo_ok X G (c.fact 51 rfl)⟩⟩,
    d_law_list := ⟨(c.def_ 75 rfl).elim fun fd F => ⟨_, fd, F, He.glo_ok X G (c.fact 52 rfl)⟩⟩,
    d_law_order := ⟨(c.def_ 76 rfl).elim fun fd F => ⟨_, fd, F, He.glo_ok X G (c.fact 53 rfl)⟩⟩,
    d_law_place_told := ⟨(c.def_ 77 rfl).elim fun fd F => ⟨_, fd, F, He.glo_ok X G (c.fact 54 rfl)⟩⟩,
    d_law := ⟨(c.def_ 78 rfl).elim fun fd F => ⟨_, fd, F, He.glo_ok X G (c.fact 55 rfl)⟩⟩,
    many := ⟨He.glo_ok X G (c.fact 3 rfl), (He.exc_ok (c.fact 125 rfl)).1, (He.exc_ok (c.fact 125 rfl)).2.1, (He.exc_ok (c.fact 125 rfl)).2.2.1, (He.exc_ok (c.fact 125 rfl)).2.2.2, He.exm_ok (c.fact 126 rfl)⟩,
    isc := ⟨e4, e5⟩,
    iscl := e6,
    isk := e7
  }
end KG
end
section
set_option Elab.async false
set_option linter.all false
set_option autoImplicit false
set_option maxRecDepth 100000
set_option maxHeartbeats 4000000
/-! ## told, penned -/
namespace KG
open PySem PySem.Spec PyProof.Rows L2 KM
open C8 (Cal Met Mak pe_c pe_mk pe_mt pe_mt0)
def spTold (N : Nm) (n : Nat) (k : Kd) : Sp := sp1 fun v H Q => ∃ a p, v = .ref a ∧ kdOf p = k ∧ PatAt N H p a ∧ Sm p ∧ dp p ≤ n ∧ ∀ v' H', Same H H' → DAt H' (toldD p) v' → Q v' H'
def spTolds (N : Nm) (n : Nat) : Sp := sp1 fun v H Q => ∃ t as ps, v = .ref t ∧ H t = some (.tup (as.map V.ref)) ∧ PatsAt N H ps as ∧ (∀ p ∈ ps, Sm p) ∧ ps.length ≤ 1000 ∧ dps ps ≤ n ∧ ∀ v' H', Same H H' → DAt H' (.tup (toldDs ps)) v' → Q v' H'
section
variable {P : Program} {w : World} {K : PySem.W.Frag} {mg : Str → Option Value} {base : Heap} {N : Nm}
theorem pats_at {ps : List Pat} {as : List Addr} {H : Hp} (h : PatsAt N H ps as) {j : Nat} (hj : j < as.length) {x : V} (e : (as.map V.ref)[j]? = some x) : ∃ a p, x = .ref a ∧ as[j]? = some a ∧ ps[j]? = some p ∧ PatAt N H p a := by
  rw [List.getElem?_map, List.getElem?_eq_getElem hj] at e
  have e2 : V.ref as[j] = x := Option.some.inj e
  obtain ⟨p, h1, h2⟩ := pats_get h (List.getElem?_eq_getElem hj)
  exact ⟨as[j], p, e2.symm, List.getElem?_eq_getElem hj, h1, h2⟩
theorem scTolds : FnScope ["parts", "part"] ["parts"] (defScope sTolds) := ⟨rfl, rfl, rfl, by decide +kernel, rfl, by decide +kernel, by decide +kernel⟩
theorem ok_tolds {n j : Nat} (T : Tx K mg N) (M : ∀ k, Met P w K mg base j (N.c k) "told" (spTold N n k) []) : Cal P w K mg base (j + 1) "tolds" (spTolds N n) [] := by
  refine T.d_tolds.cal scTolds (fun _ _ _ _ _ _ us hl => match us, hl with | [_], _ => rfl) len1 (fun f cdv A outer s H vs Q E hr h => ?_)
  obtain ⟨_, rfl, t, as, ps, rfl, ht, hp, hs, hl, hd, k⟩ := h
  refine ⟨_, pss_one (ps_ret (pe_callTy call_tuple_of rfl T.z_tuple boot_tuple (pa_cons (pe_lc (own := [("part", 1)]) (g := gName 1) (tt := tYes) rfl scTolds.nd (pi_tup (pv 0)) (blkOk_by (N := ["parts", "part"]) (sc := defScope sTolds) (by decide +kernel))
    (fun _ _ _ _ _ => pg_name (i := 1) scTolds.nd rfl (Or.inl rfl)) (fun _ _ _ _ _ => pts_nil) (fun _ _ _ _ _ => KR.pe_meth0D (pv 1) (fun i => met_md (M i)) hr (Nat.le_refl _))) pa_nil))), ?_⟩
  have hlen := pats_len hp
  refine ⟨_, rfl, t, rfl, ⟨_, SqT.of ht⟩, fun D hD => rd_lc walk_tup yat_eq hD (by rw [List.length_map]; omega) (fun j y H' => ∃ p, ps[j]? = some p ∧ DAt H' (toldD p) y) (fun j y H1 H2 z ⟨p, e1, e2⟩ => ⟨p, e1, e2.fz z⟩)
    (fun H' s' => SqT.of (s' _ _ ht)) (fun j x H' C hj y s' k' => ?_) (fun H' acc s' ha hl2 hf => ?_)⟩
  · rw [List.length_map] at hj
    obtain ⟨a, p, e1, e2, e3, e4⟩ := pats_at hp hj y.2
    subst e1
    have e5 := e4.fz (fz_same s')
    have hm : p ∈ ps := List.mem_of_getElem? e3
    obtain ⟨dx, fs, i1, i2, _⟩ := pat_ins e5
    refine ⟨_, rfl, kdOf p, a, dx, fs, rfl, i1, i2, _, rfl, a, p, rfl, rfl, e5, hs p hm, ?_, fun v' H4 s4 d4 => k' v' H4 s4 ⟨p, e3, d4⟩⟩
    have := dps_mem hm
    omega
  · rw [List.length_map] at hl2 hf
    refine ⟨D, acc, rfl, .inl ⟨SqL.of ha, fun r hr2 => k _ _ (s'.trans (same_new hr2 _)) ?_⟩⟩
    rw [DAt]
    refine ⟨r, acc, rfl, upd_same, ?_⟩
    rw [toldDs_map]
    refine dats_of (by rw [List.length_map, hl2, hlen]) fun i d v e1 e2 => ?_
    have hi : i < as.length := by
      have := (List.getElem?_eq_some_iff.mp e2).1
      omega
    obtain ⟨y, f1, p, f2, f3⟩ := hf i hi
    rw [f1] at e2
    cases e2
    rw [List.getElem?_map, f2] at e1
    cases e1
    exact f3.fz (fz_new hr2)
theorem look0 {f : Str} {v : V} : ([(f, v)] : List (Str × V)).lookup f = some v := by
  show (putF f v []).lookup f = some v
  rw [lookup_putF, if_pos rfl]
theorem MetT.void {C : Addr} {m q : Str} {st : Stmt} {ps : List Str} {sp : Sp} (T : MetT K C m q st) (b : Bnd m q st ps) (no : ∀ vs H Q E, ¬ sp vs H Q E) : Met P w K mg base 0 C m sp [] := by
  obtain ⟨f, fd, c, me, F⟩ := T.ex
  exact ⟨f, fd, ps, [], c, me, ⟨fun vs H Q E h => absurd h (no vs H Q E), fun A outer s H args us vs Q E _ _ _ _ h => absurd h (no vs H Q E)⟩, F.bindsN b, .nil⟩
theorem scOneTold : FnScope ["self"] ["self"] (defScope sOneTold) := ⟨rfl, rfl, rfl, by decide +kernel, rfl, by decide +kernel, by decide +kernel⟩
theorem ok_OneTold {n j : Nat} (T : Tx K mg N) : Met P w K mg base (j + 1) (N.c .one) "told" (spTold N n .one) [] := by
  refine T.m_One_told.met scOneTold (fun _ _ _ _ _ _ us hl => match us, hl with | [_], _ => rfl) len1 (fun f cdv A outer s H vs Q E hr h => ?_)
  obtain ⟨_, rfl, a, p, rfl, hk, hp, hs, hd, k⟩ := h
  cases p with
  | one x =>
    rw [PatAt] at hp
    obtain ⟨dx, ea⟩ := hp
    refine ⟨_, pss_one (ps_ret (pe_tup (pa_cons pe_str (pa_cons (pe_fld (pv 0) rfl) pa_nil)))), ?_⟩
    refine ⟨_, rfl, a, _, dx, _, _, rfl, ea, T.cl_One, T.na_One_form, look0, (by show 2 ≤ sizeLine; decide), fun r hr2 => k _ _ (same_new hr2 _) ?_⟩
    rw [toldD, DAt]
    exact ⟨r, _, rfl, upd_same, by simp [DAts, DAt]⟩
  | _ => cases hk
theorem scChainTold : FnScope ["self"] ["self"] (defScope sChainTold) := ⟨rfl, rfl, rfl, by decide +kernel, rfl, by decide +kernel, by decide +kernel⟩
theorem ok_ChainTold {n j : Nat} (T : Tx K mg N) (C : Cal P w K mg base j "tolds" (spTolds N n) []) : Met P w K mg base (j + 1) (N.c .chain) "told" (spTold N (n + 1) .chain) [] := by
  refine T.m_Chain_told.met scChainTold (fun _ _ _ _ _ _ us hl => match us, hl with | [_], _ => rfl) len1 (fun f cdv A outer s H vs Q E hr h => ?_)
  obtain ⟨_, rfl, a, p, rfl, hk, hp, hs, hd, k⟩ := h
  cases p with
  | chain ps =>
    obtain ⟨s1, s2, _, s4⟩ := sm_parts hs (.inl rfl)
    rw [PatAt] at hp
    obtain ⟨dx, t, bs, ea, et, hps⟩ := hp
    refine ⟨_, pss_one (ps_ret (pe_tup (pa_cons pe_str (pa_cons (pe_c C hr (Nat.le_refl _) rfl (pa_cons (pe_fld (pv 0) rfl) pa_nil)) pa_nil)))), ?_⟩
    refine ⟨_, rfl, a, _, dx, _, _, rfl, ea, T.cl_Chain, T.na_Chain_parts, look0, _, rfl, t, bs, ps, rfl, et, hps, s1, s2, by omega, fun v' H' sm dm => ⟨(by show 2 ≤ sizeLine; decide), fun r hr2 => k _ _ (sm.trans (same_new hr2 _)) ?_⟩⟩
    rw [toldD, DAt]
    have dm2 := dm.fz (fz_new (o := .tup [.str "chain", v']) hr2)
    exact ⟨r, _, rfl, upd_same, by simp only [DAts, and_true]; exact ⟨by rw [DAt], dm2⟩⟩
  | _ => cases hk
theorem scChoiceTold : FnScope ["self"] ["self"] (defScope sChoiceTold) := ⟨rfl, rfl, rfl, by decide +kernel, rfl, by decide +kernel, by decide +kernel⟩
theorem ok_ChoiceTold {n j : Nat} (T : Tx K mg N) (C : Cal P w K mg base j "tolds" (spTolds N n) []) : Met P w K mg base (j + 1) (N.c .choice) "told" (spTold N (n + 1) .choice) [] := by
  refine T.m_Choice_told.met scChoiceTold (fun _ _ _ _ _ _ us hl => match us, hl with | [_], _ => rfl) len1 (fun f cdv A outer s H vs Q E hr h => ?_)
  obtain ⟨_, rfl, a, p, rfl, hk, hp, hs, hd, k⟩ := h
  cases p with
  | choice ps =>
    obtain ⟨s1, s2, _, s4⟩ := sm_parts hs (.inr (.inl rfl))
    rw [PatAt] at hp
    obtain ⟨dx, t, bs, ea, et, hps⟩ := hp
    refine ⟨_, pss_one (ps_ret (pe_tup (pa_cons pe_str (pa_cons (pe_c C hr (Nat.le_refl _) rfl (pa_cons (pe_fld (pv 0) rfl) pa_nil)) pa_nil)))), ?_⟩
    refine ⟨_, rfl, a, _, dx, _, _, rfl, ea, T.cl_Choice, T.na_Choice_parts, look0, _, rfl, t, bs, ps, rfl, et, hps, s1, s2, by omega, fun v' H' sm dm => ⟨(by show 2 ≤ sizeLine; decide), fun r hr2 => k _ _ (sm.trans (same_new hr2 _)) ?_⟩⟩
    rw [toldD, DAt]
    have dm2 := dm.fz (fz_new (o := .tup [.str "choice", v']) hr2)
    exact ⟨r, _, rfl, upd_same, by simp only [DAts, and_true]; exact ⟨by rw [DAt], dm2⟩⟩
  | _ => cases hk
theorem scMixedTold : FnScope ["self"] ["self"] (defScope sMixedTold) := ⟨rfl, rfl, rfl, by decide +kernel, rfl, by decide +kernel, by decide +kernel⟩
theorem ok_MixedTold {n j : Nat} (T : Tx K mg N) (C : Cal P w K mg base j "tolds" (spTolds N n) []) : Met P w K mg base (j + 1) (N.c .mixed) "told" (spTold N (n + 1) .mixed) [] := by
  refine T.m_Mixed_told.met scMixedTold (fun _ _ _ _ _ _ us hl => match us, hl with | [_], _ => rfl) len1 (fun f cdv A outer s H vs Q E hr h => ?_)
  obtain ⟨_, rfl, a, p, rfl, hk, hp, hs, hd, k⟩ := h
  cases p with
  | mixed ps =>
    obtain ⟨s1, s2, _, s4⟩ := sm_parts hs (.inr (.inr rfl))
    rw [PatAt] at hp
    obtain ⟨dx, t, bs, ea, et, hps⟩ := hp
    refine ⟨_, pss_one (ps_ret (pe_tup (pa_cons pe_str (pa_cons (pe_c C hr (Nat.le_refl _) rfl (pa_cons (pe_fld (pv 0) rfl) pa_nil)) pa_nil)))), ?_⟩
    refine ⟨_, rfl, a, _, dx, _, _, rfl, ea, T.cl_Mixed, T.na_Mixed_parts, look0, _, rfl, t, bs, ps, rfl, et, hps, s1, s2, by omega, fun v' H' sm dm => ⟨(by show 2 ≤ sizeLine; decide), fun r hr2 => k _ _ (sm.trans (same_new hr2 _)) ?_⟩⟩
    rw [toldD, DAt]
    have dm2 := dm.fz (fz_new (o := .tup [.str "mixed", v']) hr2)
    exact ⟨r, _, rfl, upd_same, by simp only [DAts, and_true]; exact ⟨by rw [DAt], dm2⟩⟩
  | _ => cases hk
theorem scTimesTold : FnScope ["self", "high"] ["self"] (defScope sTimesTold) := ⟨rfl, rfl, rfl, by decide +kernel, rfl, by decide +kernel, by decide +kernel⟩
theorem ok_TimesTold {n j : Nat} (T : Tx K mg N) (M : ∀ k, Met P w K mg base j (N.c k) "told" (spTold N n k) []) : Met P w K mg base (j + 1) (N.c .times) "told" (spTold N (n + 1) .times) [] := by
  refine T.m_Times_told.met scTimesTold (fun _ _ _ _ _ _ us hl => match us, hl with | [_], _ => rfl) len1 (fun f cdv A outer s H vs Q E hr h => ?_)
  obtain ⟨_, rfl, a, p, rfl, hk, hp, hs, hd, k⟩ := h
  cases p with
  | times p lo hi =>
    obtain ⟨s1, s2, _⟩ := sm_times hs
    rw [PatAt] at hp
    obtain ⟨dx, b, ea, hb⟩ := hp
    refine ⟨_, pss_cons (ps_set (i := 1) scTimesTold.nd rfl (Or.inl rfl) (pe_un un_neg pe_int)) (pss_cons (ps_if (pt_cmp (pc_notN (pe_fld (pv 0) rfl)) rfl) (pss_one (ps_set (i := 1) scTimesTold.nd rfl (Or.inl rfl) (pe_fld (pv 0) rfl))) pss_nil)
      (pss_one (ps_ret (pe_tup (pa_cons pe_str (pa_cons (KR.pe_meth0D (pe_fld (pv 0) rfl) (fun i => met_md (M i)) hr (Nat.le_refl _)) (pa_cons (pe_fld (pv 0) rfl) (pa_cons (pv 1) pa_nil)))))))), ?_⟩
    refine ⟨_, rfl, _, rfl, a, _, dx, _, _, rfl, ea, T.cl_Times, T.na_Times_high, fsT_high, _, rfl, ?_⟩
    obtain ⟨dx2, fs2, i1, i2, _⟩ := pat_ins hb
    have fin : ∀ z : V, z = .int (hiI hi) → ∀ v' H', Same H H' → DAt H' (toldD p) v' → ∀ r, H' r = none → Q (.ref r) (upd H' r (.tup [.str "times", v', .int (lo : Nat), z])) := fun z ez v' H' sm dm r hr2 => by
      subst ez
      refine k _ _ (sm.trans (same_new hr2 _)) ?_
      rw [toldD, DAt]
      have dm2 := dm.fz (fz_new (o := .tup [.str "times", v', .int (lo : Nat), .int (hiI hi)]) hr2)
      exact ⟨r, _, rfl, upd_same, by simp only [DAts, and_true]; exact ⟨by rw [DAt], dm2, by rw [DAt], by rw [DAt]⟩⟩
    cases hi with
    | none =>
      refine iteF ?_
      refine ⟨_, rfl, a, _, dx, _, _, rfl, ea, T.cl_Times, T.na_Times_part, fsT_part, kdOf p, b, dx2, fs2, rfl, i1, i2, _, rfl, b, p, rfl, rfl, hb, s1, by omega, fun v' H' sm dm => ?_⟩
      exact ⟨_, rfl, a, _, dx, _, _, rfl, sm _ _ ea, T.cl_Times, T.na_Times_low, fsT_low, _, rfl, (by show 4 ≤ sizeLine; decide), fun r hr2 => fin _ rfl v' H' sm dm r hr2⟩
    | some h =>
      refine iteT ?_
      refine ⟨_, rfl, a, _, dx, _, _, rfl, ea, T.cl_Times, T.na_Times_high, fsT_high, ?_⟩
      refine ⟨_, rfl, a, _, dx, _, _, rfl, ea, T.cl_Times, T.na_Times_part, fsT_part, kdOf p, b, dx2, fs2, rfl, i1, i2, _, rfl, b, p, rfl, rfl, hb, s1, by omega, fun v' H' sm dm => ?_⟩
      exact ⟨_, rfl, a, _, dx, _, _, rfl, sm _ _ ea, T.cl_Times, T.na_Times_low, fsT_low, _, rfl, (by show 4 ≤ sizeLine; decide), fun r hr2 => fin _ rfl v' H' sm dm r hr2⟩
  | _ => cases hk
theorem told_no {k : Kd} : ∀ vs H Q E, ¬ spTold N 0 k vs H Q E := fun vs H Q E ⟨_, _, _, p, _, _, _, _, h, _⟩ => by
  have := dp_pos p
  omega
theorem ok_told (T : Tx K mg N) : ∀ (n : Nat) (k : Kd), Met P w K mg base (2 * n) (N.c k) "told" (spTold N n k) []
  | 0, .one => T.m_One_told.void (ps := ["self"]) (fun _ _ _ _ _ _ us hl => match us, hl with | [_], _ => rfl) told_no
  | 0, .chain => T.m_Chain_told.void (ps := ["self"]) (fun _ _ _ _ _ _ us hl => match us, hl with | [_], _ => rfl) told_no
  | 0, .choice => T.m_Choice_told.void (ps := ["self"]) (fun _ _ _ _ _ _ us hl => match us, hl with | [_], _ => rfl) told_no
  | 0, .times => T.m_Times_told.void (ps := ["self"]) (fun _ _ _ _ _ _ us hl => match us, hl with | [_], _ => rfl) told_no
  | 0, .mixed => T.m_Mixed_told.void (ps := ["self"]) (fun _ _ _ _ _ _ us hl => match us, hl with | [_], _ => rfl) told_no
  | n + 1, k => by
    have ih := ok_told T n
    have C := ok_tolds T ih
    cases k with
    | one => exact ok_OneTold T
    | chain => exact ok_ChainTold T C
    | choice => exact ok_ChoiceTold T C
    | times => exact Met.mono' (ok_TimesTold T ih) (by omega)
    | mixed => exact ok_MixedTold T C
end
end KG
end
section
set_option Elab.async false
set_option linter.all false
set_option autoImplicit false
set_option maxRecDepth 100000
set_option maxHeartbeats 4000000
/-! ## penned -/
namespace KG
open PySem PySem.Spec PyProof.Rows L2 KM
open C8 (Cal Met Mak pe_c pe_mk pe_mt pe_mt0)
def penS (p : Pat) : Str := SX.S (penL p)
def spPenned (n : Nat) : Sp := sp1 fun v H Q => ∃ p, DAt H (toldD p) v ∧ Sm p ∧ dp p ≤ n ∧ ∀ H', Same H H' → Q (.str (penS p)) H'
/-! ### the words -/
def kw : Pat → Str
  | .one _ => "one"
  | .chain _ => "chain"
  | .choice _ => "choice"
  | .times _ _ _ => "times"
  | .mixed _ => "mixed"
def restD : Pat → List Dt
  | .one f => [.str f]
  | .chain ps => [.tup (toldDs ps)]
  | .choice ps => [.tup (toldDs ps)]
  | .times p lo hi => [toldD p, .int lo, .int (hiI hi)]
  | .mixed ps => [.tup (toldDs ps)]
theorem toldD_kw (p : Pat) : toldD p = .tup (.str (kw p) :: restD p) := by
  cases p <;> rw [toldD] <;> rfl
/-- told[0] is the kind's word -/
theorem told_at {H : Hp} {p : Pat} {v : V} (h : DAt H (toldD p) v) : ∃ a vs, v = .ref a ∧ H a = some (.tup (.str (kw p) :: vs)) ∧ DAts H (restD p) vs := by
  rw [toldD_kw, DAt] at h
  obtain ⟨a, xs, e, ha, hs⟩ := h
  cases xs with
  | nil => simp [DAts] at hs
  | cons x vs =>
    rw [DAts] at hs
    obtain ⟨h1, h2⟩ := hs
    rw [DAt] at h1
    subst h1
    exact ⟨a, vs, e, ha, h2⟩
theorem dats1 {H : Hp} {d : Dt} {vs : List V} (h : DAts H [d] vs) : ∃ v, vs = [v] ∧ DAt H d v := by
  match vs, h with
  | [], h => simp [DAts] at h
  | [v], h =>
    rw [DAts] at h
    exact ⟨v, rfl, h.1⟩
  | v :: u :: vs, h => simp [DAts] at h
theorem dats3 {H : Hp} {d e f : Dt} {vs : List V} (h : DAts H [d, e, f] vs) : ∃ x y z, vs = [x, y, z] ∧ DAt H d x ∧ DAt H e y ∧ DAt H f z := by
  match vs, h with
  | [], h => simp [DAts] at h
  | [v], h => simp [DAts] at h
  | [v, u], h => simp [DAts] at h
  | [x, y, z], h =>
    simp only [DAts, and_true] at h
    exact ⟨x, y, z, rfl, h⟩
  | v :: u :: x :: y :: vs, h => simp [DAts] at h
/-- lists that agree at each place -/
theorem list_by {α : Type} {xs ys : List α} (hl : xs.length = ys.length) (h : ∀ (i : Nat), i < xs.length → xs[i]? = ys[i]?) : xs = ys := by
  refine List.ext_getElem? fun i => ?_
  by_cases hi : i < xs.length
  · exact h i hi
  · rw [List.getElem?_eq_none (by omega), List.getElem?_eq_none (by omega)]
theorem acc_map {α : Type} {acc : List V} {ps : List α} {f : α → V} {n : Nat} (hn : n = ps.length) (hl : acc.length = n) (h : ∀ j, j < n → ∃ y, acc[j]? = some y ∧ ∃ p, ps[j]? = some p ∧ y = f p) : acc = ps.map f := by
  refine list_by (by rw [List.length_map]; omega) fun i hi => ?_
  obtain ⟨y, h1, p, h2, h3⟩ := h i (by omega)
  rw [h1, List.getElem?_map, h2, h3]
  rfl
/-! ### texts -/
theorem str_num : ∀ n : Fin 10, Str.ofString (toString ((n.val : Nat) : Int)) = SX.S (numL n.val) := by decide +kernel
theorem str_lo {n : Nat} (h : n ≤ 9) : Str.ofString (toString ((n : Nat) : Int)) = SX.S (numL n) := str_num ⟨n, by omega⟩
theorem str_neg : Str.ofString (toString (-1 : Int)) = SX.S [45, 49] := by decide +kernel
theorem str_hi {hi : Option Nat} (h : ∀ k, hi = some k → k ≤ 9) : Str.ofString (toString (hiI hi)) = SX.S (hiL hi) := by
  cases hi with
  | none => exact str_neg
  | some k => exact str_lo (h k rfl)
theorem log_small {i : Int} (h : i.natAbs ≤ 1000) : i.natAbs.log2 < 1920 := by
  have h1 : i.natAbs.log2 ≤ i.natAbs := Nat.log2_le_self _
  omega
theorem joinL_pens : ∀ ps : List Pat, TL.joinL [32] (ps.map penL) = pensL ps
  | [] => by rw [pensL]; rfl
  | [p] => by rw [pensL, tailL, List.append_nil]; rfl
  | p :: q :: ps => by
    have ih := joinL_pens (q :: ps)
    show penL p ++ ([32] ++ TL.joinL [32] ((q :: ps).map penL)) = _
    rw [ih, pensL, pensL, tailL]
    rfl
theorem pen_pos {ps : List Pat} (h : ∀ p ∈ ps, Cn p) : (((ps.map penS).map (·.length)).sum + (ps.map penS).length * 1) ≤ szs ps := by
  induction ps with
  | nil => rw [szs]; exact Nat.le_refl _
  | cons p ps ih =>
    have h1 := pen_len p (h p List.mem_cons_self)
    have h2 := ih fun q hq => h q (List.mem_cons_of_mem _ hq)
    have h3 : (penS p).length = (penL p).length := SX.S_len _
    rw [szs]
    simp only [List.map_cons, List.sum_cons, List.length_cons] at h2 ⊢
    omega
theorem chr_S (c : Nat) (s : String) (h : Str.ofString s = SX.S [c]) (l : List Nat) : (s : Str) ++ SX.S l = SX.S (c :: l) := by
  show Str.ofString s ++ SX.S l = _
  rw [h, SX.S_cat]
  rfl
theorem e_T : Str.ofString "T" = SX.S [84] := by decide +kernel
theorem e_comma : Str.ofString "," = SX.S [44] := by decide +kernel
theorem e_open : Str.ofString "(" = SX.S [40] := by decide +kernel
theorem e_close : Str.ofString ")" = SX.S [41] := by decide +kernel
theorem e_C : Str.ofString "C" = SX.S [67] := by decide +kernel
theorem e_O : Str.ofString "O" = SX.S [79] := by decide +kernel
theorem e_M : Str.ofString "M" = SX.S [77] := by decide +kernel
theorem e_blank : Str.ofString " " = SX.S [32] := by decide +kernel
theorem pen_times {p : Pat} {lo : Nat} {hi : Option Nat} (h : CntOk lo hi) :
    ((((((Str.ofString "T") ++ Str.ofString (toString ((lo : Nat) : Int))) ++ Str.ofString ",") ++ Str.ofString (toString (hiI hi))) ++ Str.ofString "(") ++ penS p) ++ Str.ofString ")" = penS (.times p lo hi) := by
  rw [str_lo h.1, str_hi fun k e => (h.2 k e).1, e_T, e_comma, e_open, e_close]
  unfold penS
  rw [penL]
  simp only [SX.S_cat]
  congr 1
  simp
def wordS : Pat → Str
  | .chain _ => "C"
  | .choice _ => "O"
  | .mixed _ => "M"
  | _ => ""
theorem pen_list {p : Pat} {ps : List Pat} (e : p = .chain ps ∨ p = .choice ps ∨ p = .mixed ps) : ((wordS p ++ Str.ofString "(") ++ Txt.join (Str.ofString " ") (ps.map penS)) ++ Str.ofString ")" = penS p := by
  have hj : Txt.join (Str.ofString " ") (ps.map penS) = SX.S (pensL ps) := by
    rw [e_blank, ← joinL_pens, ← SX.join_S, List.map_map]
    rfl
  rw [hj, e_open, e_close]
  rcases e with e | e | e <;> subst e
  · show ((Str.ofString "C" ++ _) ++ _) ++ _ = _
    rw [e_C]
    unfold penS
    rw [penL]
    simp only [SX.S_cat]
    rfl
  · show ((Str.ofString "O" ++ _) ++ _) ++ _ = _
    rw [e_O]
    unfold penS
    rw [penL]
    simp only [SX.S_cat]
    rfl
  · show ((Str.ofString "M" ++ _) ++ _) ++ _ = _
    rw [e_M]
    unfold penS
    rw [penL]
    simp only [SX.S_cat]
    rfl
def wordT : List (Key × V) := [(.inr "chain", .str "C"), (.inr "choice", .str "O"), (.inr "mixed", .str "M")]
theorem word_at : valV (mergeK [] wordT) (.inr ("chain" : Str)) = some (.str "C") ∧ valV (mergeK [] wordT) (.inr ("choice" : Str)) = some (.str "O") ∧ valV (mergeK [] wordT) (.inr ("mixed" : Str)) = some (.str "M") := by
  decide +kernel
theorem str_len (p : Pat) : (penS p).length = (penL p).length := SX.S_len _
section
variable {P : Program} {w : World} {K : PySem.W.Frag} {mg : Str → Option Value} {base : Heap} {N : Nm}
theorem scPenned : FnScope ["told", "word", "part"] ["told"] (defScope sPenned) := ⟨rfl, rfl, rfl, by decide +kernel, rfl, by decide +kernel, by decide +kernel⟩
theorem at0 {x : V} {xs : List V} : atI (x :: xs) 0 = some x := atI_nat (xs := x :: xs) (j := 0) rfl
theorem at1 {x y : V} {xs : List V} : atI (x :: y :: xs) 1 = some y := atI_nat (xs := x :: y :: xs) (j := 1) rfl
theorem at2 {x y z : V} {xs : List V} : atI (x :: y :: z :: xs) 2 = some z := atI_nat (xs := x :: y :: z :: xs) (j := 2) rfl
theorem at3 {x y z u : V} {xs : List V} : atI (x :: y :: z :: u :: xs) 3 = some u := atI_nat (xs := x :: y :: z :: u :: xs) (j := 3) rfl
theorem kind3 (p : Pat) : (∃ f, p = .one f) ∨ (∃ q lo hi, p = .times q lo hi) ∨ ∃ ps, p = .chain ps ∨ p = .choice ps ∨ p = .mixed ps := by
  cases p with
  | one f => exact .inl ⟨f, rfl⟩
  | times q lo hi => exact .inr (.inl ⟨q, lo, hi, rfl⟩)
  | chain ps => exact .inr (.inr ⟨ps, .inl rfl⟩)
  | choice ps => exact .inr (.inr ⟨ps, .inr (.inl rfl)⟩)
  | mixed ps => exact .inr (.inr ⟨ps, .inr (.inr rfl)⟩)
theorem kw_11 : decide (V.str (Str.ofString "one") = V.str (Str.ofString "one")) = true := by decide +kernel
theorem kw_t1 : decide (V.str (Str.ofString "times") = V.str (Str.ofString "one")) = false := by decide +kernel
theorem kw_tt : decide (V.str (Str.ofString "times") = V.str (Str.ofString "times")) = true := by decide +kernel
theorem kw_3 {p : Pat} {ps : List Pat} (e : p = .chain ps ∨ p = .choice ps ∨ p = .mixed ps) : decide (V.str (kw p) = V.str (Str.ofString "one")) = false ∧ decide (V.str (kw p) = V.str (Str.ofString "times")) = false ∧
    restD p = [.tup (toldDs ps)] ∧ valV (mergeK [] wordT) (.inr (kw p)) = some (.str (wordS p)) ∧ (wordS p).length = 1 := by
  rcases e with e | e | e <;> subst e
  · refine ⟨?_, ?_, rfl, word_at.1, rfl⟩
    · show decide (V.str (Str.ofString "chain") = V.str (Str.ofString "one")) = false
      decide +kernel
    · show decide (V.str (Str.ofString "chain") = V.str (Str.ofString "times")) = false
      decide +kernel
  · refine ⟨?_, ?_, rfl, word_at.2.1, rfl⟩
    · show decide (V.str (Str.ofString "choice") = V.str (Str.ofString "one")) = false
      decide +kernel
    · show decide (V.str (Str.ofString "choice") = V.str (Str.ofString "times")) = false
      decide +kernel
  · refine ⟨?_, ?_, rfl, word_at.2.2, rfl⟩
    · show decide (V.str (Str.ofString "mixed") = V.str (Str.ofString "one")) = false
      decide +kernel
    · show decide (V.str (Str.ofString "mixed") = V.str (Str.ofString "times")) = false
      decide +kernel
theorem ap_len (x y : Str) : (x ++ y).length = x.length + y.length := by
  show (x.cps ++ y.cps).size = _
  rw [Array.size_append]
  rfl
theorem fits16 {n : Nat} (h : n ≤ 16000000) : n ≤ sizeLine := by
  rw [sizeLine_eq]
  omega
theorem ok_penned (T : Tx K mg N) : ∀ n : Nat, Cal P w K mg base n "penned" (spPenned n) []
  | 0 => by
    obtain ⟨f, fd, F, m⟩ := T.d_penned.ex
    have no : ∀ vs H Q E, ¬ spPenned 0 vs H Q E := fun vs H Q E ⟨_, _, p, _, _, h, _⟩ => by
      have := dp_pos p
      omega
    exact ⟨f, fd, ["told"], [], ⟨fun vs H Q E h => absurd h (no vs H Q E), fun A outer s H args us vs Q E _ _ _ _ h => absurd h (no vs H Q E)⟩, m, F.kp, F.bindsN (fun _ _ _ _ _ _ us hl => match us, hl with | [_], _ => rfl), .nil⟩
  | n + 1 => by
    have ih := ok_penned T n
    refine T.d_penned.cal scPenned (fun _ _ _ _ _ _ us hl => match us, hl with | [_], _ => rfl) len1 (fun f cdv A outer s H vs Q E hr h => ?_)
    obtain ⟨v, rfl, p, hp, hs, hd, k⟩ := h
    have hu := hu_of hr
    refine ⟨_, pss_cons (ps_if (pt_cmpR op_eq (pe_ix ix_tup (pv 0) pe_int (fun _ _ => rfl)) pe_str (nomark _)) (pss_one (ps_ret (pe_ix ix_tup (pv 0) pe_int (fun _ _ => rfl)))) pss_nil)
      (pss_cons (ps_if (pt_cmpR op_eq (pe_ix ix_tup (pv 0) pe_int (fun _ _ => rfl)) pe_str (nomark _))
        (pss_one (ps_ret (pe_op op_add_str (pe_op op_add_str (pe_op op_add_str (pe_op op_add_str (pe_op op_add_str (pe_op op_add_str pe_str
          (pe_callTy call_str_int rfl T.z_str boot_str (pa_cons (pe_ix ix_tup (pv 0) pe_int (fun _ _ => rfl)) pa_nil))) pe_str)
          (pe_callTy call_str_int rfl T.z_str boot_str (pa_cons (pe_ix ix_tup (pv 0) pe_int (fun _ _ => rfl)) pa_nil))) pe_str)
          (pe_c ih hr (Nat.le_refl _) rfl (pa_cons (pe_ix ix_tup (pv 0) pe_int (fun _ _ => rfl)) pa_nil))) pe_str))) pss_nil)
      (pss_cons (ps_set (i := 1) scPenned.nd rfl (Or.inl rfl) (pe_dget hu (pe_disp (pps_cons pe_str pe_str (pps_cons pe_str pe_str (pps_cons pe_str pe_str pps_nil))) (by rfl) (by rfl) (fun z => by cases z) (by decide)) (pe_ix ix_tup (pv 0) pe_int (fun _ _ => rfl)) (fun _ _ => rfl)))
      (pss_one (ps_ret (pe_op op_add_str (pe_op op_add_str (pe_op op_add_str (pv 1) pe_str)
        (pe_join pe_str (pe_lc (own := [("part", 2)]) (g := gName 2) (tt := tYes) rfl scPenned.nd (pi_tup (pe_ix ix_tup (pv 0) pe_int (fun _ _ => rfl))) (blkOk_by (N := ["told", "word", "part"]) (sc := defScope sPenned) (by decide +kernel))
          (fun _ _ _ _ _ => pg_name (i := 2) scPenned.nd rfl (Or.inl rfl)) (fun _ _ _ _ _ => pts_nil) (fun _ _ _ _ _ => pe_c ih hr (Nat.le_refl _) rfl (pa_cons (pv 2) pa_nil))))) pe_str))))), ?_⟩
    obtain ⟨a, vs, rfl, ha, hv⟩ := told_at hp
    refine ⟨_, rfl, a, _, _, _, rfl, rfl, SqT.of ha, at0, rfl, _, rfl, ?_⟩
    rcases kind3 p with ⟨x, e⟩ | ⟨p, lo, hi, e⟩ | ⟨ps, e⟩
    · subst e
      show if decide (V.str (Str.ofString "one") = V.str (Str.ofString "one")) = true then _ else _
      rw [kw_11]
      refine iteT ?_
      obtain ⟨y, e1, e2⟩ := dats1 hv
      subst e1
      rw [DAt] at e2
      subst e2
      refine ⟨_, rfl, a, _, _, _, rfl, rfl, SqT.of ha, at1, ?_⟩
      have e3 : penS (.one x) = x := by
        unfold penS
        rw [penL]
      have q := k H (Same.refl H)
      rw [e3] at q
      exact q
    · subst e
      show if decide (V.str (Str.ofString "times") = V.str (Str.ofString "one")) = true then _ else _
      rw [kw_t1]
      refine iteF ?_
      refine ⟨_, rfl, a, _, _, _, rfl, rfl, SqT.of ha, at0, rfl, _, rfl, ?_⟩
      show if decide (V.str (Str.ofString "times") = V.str (Str.ofString "times")) = true then _ else _
      rw [kw_tt]
      refine iteT ?_
      obtain ⟨s1, s2, s3⟩ := sm_times hs
      obtain ⟨x, y, z, e1, e2, e3, e4⟩ := dats3 hv
      subst e1
      rw [DAt] at e3 e4
      subst e3 e4
      have h1 := pen_len p s1.1
      have h2 : (penS p).length = (penL p).length := str_len p
      have h3 := s1.2
      have l0 : (Str.ofString "T").length = 1 := by rw [e_T]; rfl
      have l1 : (Str.ofString (toString ((lo : Nat) : Int))).length = 1 := by rw [str_lo s3.1]; rfl
      have l2 : (Str.ofString ",").length = 1 := by rw [e_comma]; rfl
      have l3 : (Str.ofString (toString (hiI hi))).length ≤ 2 := by
        rw [str_hi fun k e => (s3.2 k e).1, SX.S_len]
        cases hi <;> simp [hiL, numL]
      have l4 : (Str.ofString "(").length = 1 := by rw [e_open]; rfl
      have l5 : (Str.ofString ")").length = 1 := by rw [e_close]; rfl
      have hlo : (((lo : Nat) : Int)).natAbs ≤ 1000 := by have := s3.1; omega
      have hhi : (hiI hi).natAbs ≤ 1000 := by
        cases hi with
        | none => decide
        | some h => have := (s3.2 h rfl).1; show ((h : Nat) : Int).natAbs ≤ 1000; omega
      refine ⟨_, rfl, a, _, _, _, rfl, rfl, SqT.of ha, at2, _, rfl, log_small hlo, _, _, rfl, rfl, fits16 (by omega), _, _, rfl, rfl, fits16 (by rw [ap_len]; omega), ?_⟩
      refine ⟨_, rfl, a, _, _, _, rfl, rfl, SqT.of ha, at3, _, rfl, log_small hhi, _, _, rfl, rfl, fits16 (by rw [ap_len, ap_len]; omega), _, _, rfl, rfl, fits16 (by rw [ap_len, ap_len, ap_len]; omega), ?_⟩
      refine ⟨_, rfl, a, _, _, _, rfl, rfl, SqT.of ha, at1, _, rfl, p, e2, s1, by omega, fun H' sm => ?_⟩
      refine ⟨_, _, rfl, rfl, fits16 (by rw [ap_len, ap_len, ap_len, ap_len]; omega), _, _, rfl, rfl, fits16 (by rw [ap_len, ap_len, ap_len, ap_len, ap_len]; omega), ?_⟩
      have q := k H' sm
      rw [← pen_times s3] at q
      exact q
    · obtain ⟨w1, w2, w3, w4, w5⟩ := kw_3 e
      obtain ⟨s1, s2, s3, s4⟩ := sm_parts hs e
      rw [w1]
      refine iteF ?_
      refine ⟨_, rfl, a, _, _, _, rfl, rfl, SqT.of ha, at0, rfl, _, rfl, ?_⟩
      rw [w2]
      refine iteF ?_
      rw [w3] at hv
      obtain ⟨y, e1, e2⟩ := dats1 hv
      subst e1
      rw [DAt] at e2
      obtain ⟨t, us, rfl, ht, hus⟩ := e2
      intro d hdn
      refine ⟨upd_same, wordT, rfl, (by decide), ?_⟩
      have g1 : Same H (upd (upd H d (.dK [])) d (.dK (mergeK [] wordT))) := fun b o q => by
        rw [upd_ne (ne_of_none q hdn), upd_ne (ne_of_none q hdn)]
        exact q
      refine ⟨_, rfl, a, _, _, _, rfl, rfl, SqT.of (g1 _ _ ha), at0, d, .str (wordS p), rfl, ?_, ?_⟩
      · have q := DGet.k (k := Sum.inr (kw p)) (upd_same (H := upd H d (.dK [])) (a := d) (o := .dK (mergeK [] wordT)))
        rw [w4] at q
        exact q
      have hcn : ∀ q ∈ ps, Cn q := fun q hq => (s1 q hq).1
      have hpl := pen_pos hcn
      have l4 : (Str.ofString "(").length = 1 := by rw [e_open]; rfl
      have l5 : (Str.ofString ")").length = 1 := by rw [e_close]; rfl
      have l6 : (Str.ofString " ").length = 1 := by rw [e_blank]; rfl
      refine ⟨_, rfl, _, _, rfl, rfl, fits16 (by omega), ⟨_, rfl⟩, _, rfl, a, _, _, _, rfl, rfl, SqT.of (g1 _ _ ha), at1, t, rfl, ⟨_, SqT.of (g1 _ _ ht)⟩, fun D hD => ?_⟩
      have hul := dats_len hus
      rw [toldDs_map, List.length_map] at hul
      refine rd_lc walk_tup yat_eq hD (by omega) (fun j y H' => ∃ q, ps[j]? = some q ∧ y = .str (penS q)) (fun j y H1 H2 z q => q) (fun H' s' => SqT.of (s' _ _ (g1 _ _ ht))) (fun j x H' C hj y s' k' => ?_) (fun H' acc s' hacc hl2 hf => ?_)
      · have hjp : j < ps.length := by omega
        have e5 : (toldDs ps)[j]? = some (toldD ps[j]) := by rw [toldDs_map, List.getElem?_map, List.getElem?_eq_getElem hjp]; rfl
        obtain ⟨v, f1, f2⟩ := dats_get hus e5
        have f3 : x = v := by
          have := y.2
          rw [f1] at this
          exact (Option.some.inj this).symm
        subst f3
        have hm : ps[j] ∈ ps := List.getElem_mem hjp
        refine ⟨_, rfl, _, rfl, ps[j], f2.fz (fz_same (g1.trans s')), s1 _ hm, ?_, fun H4 s4 => k' _ H4 s4 ⟨ps[j], List.getElem?_eq_getElem hjp, rfl⟩⟩
        have := dps_mem hm
        omega
      · have e6 : acc = (ps.map penS).map V.str := by
          rw [List.map_map]
          exact acc_map (f := V.str ∘ penS) hul hl2 hf
        refine ⟨_, D, ps.map penS, rfl, rfl, .inl (SqL.of (by rw [← e6]; exact hacc)), by rw [l6]; omega, ?_⟩
        have hj : (Txt.join (Str.ofString " ") (ps.map penS)).length ≤ 1000 := by
          have e7 : Txt.join (Str.ofString " ") (ps.map penS) = SX.S (pensL ps) := by
            rw [e_blank, ← joinL_pens, ← SX.join_S, List.map_map]
            rfl
          have h8 : (pensL ps).length ≤ (penL p).length := by
            rcases e with e | e | e <;> subst e <;> rw [penL] <;> simp <;> omega
          have h9 := pen_len p hs.1
          have h10 := hs.2
          rw [e7, SX.S_len]
          omega
        refine ⟨_, _, rfl, rfl, fits16 (by rw [ap_len]; omega), _, _, rfl, rfl, fits16 (by rw [ap_len, ap_len]; omega), ?_⟩
        have q := k H' (g1.trans s')
        rw [← pen_list e] at q
        exact q
end
end KG
end
section
set_option Elab.async false
set_option linter.all false
set_option autoImplicit false
set_option maxRecDepth 100000
set_option maxHeartbeats 4000000
/-! ## the makers -/
namespace KG
open PySem PySem.Spec PyProof.Rows L2 KM
open C8 (Cal Met Mak pe_c pe_mk pe_mt pe_mt0)
/-- a list of patterns -/
def LstAt (N : Nm) (H : Hp) (ps : List Pat) (l : Addr) : Prop := ∃ as : List Addr, H l = some (.lst (as.map V.ref)) ∧ PatsAt N H ps as
/-- the four __init__s that store one thing -/
def spI1 (C : Addr) : Sp := sp2 fun v u H Q => ∃ (a dx l : Addr) (xs : List V), v = .ref a ∧ u = .ref l ∧ H a = some (.ins C dx []) ∧ H l = some (.lst xs) ∧ ∀ t, H t = none → Q .non (upd (upd H t (.tup xs)) a (.ins C dx [("parts", .ref t)]))
def spIOne (C : Addr) : Sp := sp2 fun v u H Q => ∃ (a dx : Addr) (f : Str), v = .ref a ∧ u = .str f ∧ H a = some (.ins C dx []) ∧ Q .non (upd H a (.ins C dx [("form", .str f)]))
def spITimes (C : Addr) : Sp := sp4 fun v u lo hi H Q => ∃ (a dx b : Addr) (l : Nat) (h : Option Nat), v = .ref a ∧ u = .ref b ∧ lo = .int l ∧ hi = hiV h ∧ H a = some (.ins C dx []) ∧ ∀ H', (∀ c, c ≠ a → H' c = H c) → H' a = some (.ins C dx (fsT b l h)) → Q .non H'
section
variable {P : Program} {w : World} {K : PySem.W.Frag} {mg : Str → Option Value} {base : Heap} {N : Nm}
theorem scOneInit : FnScope ["self", "form"] ["self", "form"] (defScope sOneInit) := ⟨rfl, rfl, rfl, by decide +kernel, rfl, by decide +kernel, by decide +kernel⟩
theorem ok_OneInit (T : Tx K mg N) : Mak P w K mg base 1 "One" (N.c .one) (spIOne (N.c .one)) [] := by
  refine T.k_One.mak scOneInit (fun _ _ _ _ _ _ us hl => match us, hl with | [_, _], _ => rfl) len2 (fun f cdv A outer s H vs Q E hr h => ?_)
  obtain ⟨_, _, rfl, a, dx, x, rfl, rfl, ha, k⟩ := h
  refine ⟨_, pss_one (ps_fld (pv 0) (pv 1) rfl), ?_⟩
  exact ⟨_, rfl, _, rfl, a, _, dx, _, rfl, ha, T.cl_One, T.na_One_form, (by show 0 < 1000; decide), k⟩
theorem scChainInit : FnScope ["self", "parts"] ["self", "parts"] (defScope sChainInit) := ⟨rfl, rfl, rfl, by decide +kernel, rfl, by decide +kernel, by decide +kernel⟩
theorem ok_ChainInit (T : Tx K mg N) : Mak P w K mg base 1 "Chain" (N.c .chain) (spI1 (N.c .chain)) [] := by
  refine T.k_Chain.mak scChainInit (fun _ _ _ _ _ _ us hl => match us, hl with | [_, _], _ => rfl) len2 (fun f cdv A outer s H vs Q E hr h => ?_)
  obtain ⟨_, _, rfl, a, dx, l, xs, rfl, rfl, ha, hl, k⟩ := h
  refine ⟨_, pss_one (ps_fld (pv 0) (pe_callTy call_tuple_of rfl T.z_tuple boot_tuple (pa_cons (pv 1) pa_nil)) rfl), ?_⟩
  refine ⟨_, rfl, l, xs, rfl, .inl ⟨SqL.of hl, fun t ht => ?_⟩⟩
  have ha2 : upd H t (HO.tup xs) a = some (.ins (N.c .chain) dx []) := by rw [upd_ne (ne_of_none ha ht)]; exact ha
  exact ⟨_, rfl, a, _, dx, _, rfl, ha2, T.cl_Chain, T.na_Chain_parts, (by show 0 < 1000; decide), k t ht⟩
theorem scChoiceInit : FnScope ["self", "parts"] ["self", "parts"] (defScope sChoiceInit) := ⟨rfl, rfl, rfl, by decide +kernel, rfl, by decide +kernel, by decide +kernel⟩
theorem ok_ChoiceInit (T : Tx K mg N) : Mak P w K mg base 1 "Choice" (N.c .choice) (spI1 (N.c .choice)) [] := by
  refine T.k_Choice.mak scChoiceInit (fun _ _ _ _ _ _ us hl => match us, hl with | [_, _], _ => rfl) len2 (fun f cdv A outer s H vs Q E hr h => ?_)
  obtain ⟨_, _, rfl, a, dx, l, xs, rfl, rfl, ha, hl, k⟩ := h
  refine ⟨_, pss_one (ps_fld (pv 0) (pe_callTy call_tuple_of rfl T.z_tuple boot_tuple (pa_cons (pv 1) pa_nil)) rfl), ?_⟩
  refine ⟨_, rfl, l, xs, rfl, .inl ⟨SqL.of hl, fun t ht => ?_⟩⟩
  have ha2 : upd H t (HO.tup xs) a = some (.ins (N.c .choice) dx []) := by rw [upd_ne (ne_of_none ha ht)]; exact ha
  exact ⟨_, rfl, a, _, dx, _, rfl, ha2, T.cl_Choice, T.na_Choice_parts, (by show 0 < 1000; decide), k t ht⟩
theorem scMixedInit : FnScope ["self", "parts"] ["self", "parts"] (defScope sMixedInit) := ⟨rfl, rfl, rfl, by decide +kernel, rfl, by decide +kernel, by decide +kernel⟩
theorem ok_MixedInit (T : Tx K mg N) : Mak P w K mg base 1 "Mixed" (N.c .mixed) (spI1 (N.c .mixed)) [] := by
  refine T.k_Mixed.mak scMixedInit (fun _ _ _ _ _ _ us hl => match us, hl with | [_, _], _ => rfl) len2 (fun f cdv A outer s H vs Q E hr h => ?_)
  obtain ⟨_, _, rfl, a, dx, l, xs, rfl, rfl, ha, hl, k⟩ := h
  refine ⟨_, pss_one (ps_fld (pv 0) (pe_callTy call_tuple_of rfl T.z_tuple boot_tuple (pa_cons (pv 1) pa_nil)) rfl), ?_⟩
  refine ⟨_, rfl, l, xs, rfl, .inl ⟨SqL.of hl, fun t ht => ?_⟩⟩
  have ha2 : upd H t (HO.tup xs) a = some (.ins (N.c .mixed) dx []) := by rw [upd_ne (ne_of_none ha ht)]; exact ha
  exact ⟨_, rfl, a, _, dx, _, rfl, ha2, T.cl_Mixed, T.na_Mixed_parts, (by show 0 < 1000; decide), k t ht⟩
theorem scTimesInit : FnScope ["self", "part", "low", "high"] ["self", "part", "low", "high"] (defScope sTimesInit) := ⟨rfl, rfl, rfl, by decide +kernel, rfl, by decide +kernel, by decide +kernel⟩
theorem len_fs2 (x : V) (y : V) : (putF "low" y (putF "part" x [])).length < 1000 := by
  show (if ("part" : Str) = "low" then [(("part" : Str), y)] else (("part" : Str), x) :: putF "low" y []).length < 1000
  rw [if_neg (by decide +kernel)]
  show 2 < 1000
  decide
theorem ok_TimesInit (T : Tx K mg N) : Mak P w K mg base 1 "Times" (N.c .times) (spITimes (N.c .times)) [] := by
  refine T.k_Times.mak scTimesInit (fun _ _ _ _ _ _ us hl => match us, hl with | [_, _, _, _], _ => rfl) len4 (fun f cdv A outer s H vs Q E hr h => ?_)
  obtain ⟨_, _, _, _, rfl, a, dx, b, l, hh, rfl, rfl, rfl, rfl, ha, k⟩ := h
  refine ⟨_, pss_cons (ps_fld (pv 0) (pv 1) rfl) (pss_cons (ps_fld (pv 0) (pv 2) rfl) (pss_one (ps_fld (pv 0) (pv 3) rfl))), ?_⟩
  refine ⟨_, rfl, _, rfl, a, _, dx, _, rfl, ha, T.cl_Times, T.na_Times_part, (by show 0 < 1000; decide), _, rfl, _, rfl, a, _, dx, _, rfl, upd_same, T.cl_Times, T.na_Times_low, (by show 1 < 1000; decide), ?_⟩
  refine ⟨_, rfl, _, rfl, a, _, dx, _, rfl, upd_same, T.cl_Times, T.na_Times_high, len_fs2 _ _, ?_⟩
  exact k _ (fun c hc => by rw [upd_ne hc, upd_ne hc, upd_ne hc]) upd_same
/-! ### what a call of the class makes -/
/-- the heap with a new instance -/
theorem same_ins {H : Hp} {x dx C : Addr} {t : Addr} {fs gs : List (Str × V)} {xs : List V} (hx : H x = none) (hd : H dx = none) (ht : upd (upd H dx (.own x)) x (.ins C dx fs) t = none) :
    Same H (upd (upd (upd (upd H dx (.own x)) x (.ins C dx fs)) t (.tup xs)) x (.ins C dx gs)) := fun b o e => by
  have h1 : b ≠ x := ne_of_none e hx
  have h2 : b ≠ dx := ne_of_none e hd
  have h3 : (upd (upd H dx (.own x)) x (.ins C dx fs)) b = some o := by rw [upd_ne h1, upd_ne h2]; exact e
  rw [upd_ne h1, upd_ne (ne_of_none h3 ht)]
  exact h3
theorem rd_mk1 {H : Hp} {C : Addr} {l : Addr} {as : List Addr} {Q : VK} {E : XK} (hl : H l = some (.lst (as.map V.ref))) (k : ∀ x H' dx t, Same H H' → H' x = some (.ins C dx [("parts", .ref t)]) → H' t = some (.tup (as.map V.ref)) → Q (.ref x) H') :
    ∀ x dx, H x = none → H dx = none → dx ≠ x → spI1 C (.ref x :: ([.ref l] ++ [])) (upd (upd H dx (.own x)) x (.ins C dx [])) (fun v H2 => v = .non ∧ Q (.ref x) H2) E := by
  intro x dx hx hd hne
  refine ⟨_, _, rfl, x, dx, l, _, rfl, rfl, upd_same, by rw [upd_ne (ne_of_none hl hx), upd_ne (ne_of_none hl hd)]; exact hl, fun t ht => ⟨rfl, k x _ dx t (same_ins hx hd ht) upd_same ?_⟩⟩
  have : t ≠ x := fun e => by rw [e, upd_same] at ht; cases ht
  rw [upd_ne this, upd_same]
theorem mk_chain {H : Hp} {l : Addr} {ps : List Pat} {Q : VK} {E : XK} (hl : LstAt N H ps l) (k : ∀ x H', Same H H' → PatAt N H' (.chain ps) x → Q (.ref x) H') :
    ∀ x dx, H x = none → H dx = none → dx ≠ x → spI1 (N.c .chain) (.ref x :: ([.ref l] ++ [])) (upd (upd H dx (.own x)) x (.ins (N.c .chain) dx [])) (fun v H2 => v = .non ∧ Q (.ref x) H2) E := by
  obtain ⟨as, hl, hp⟩ := hl
  exact rd_mk1 hl fun x H' dx t s e1 e2 => k x H' s (by rw [PatAt]; exact ⟨dx, t, as, e1, e2, hp.fz (fz_same s)⟩)
theorem mk_choice {H : Hp} {l : Addr} {ps : List Pat} {Q : VK} {E : XK} (hl : LstAt N H ps l) (k : ∀ x H', Same H H' → PatAt N H' (.choice ps) x → Q (.ref x) H') :
    ∀ x dx, H x = none → H dx = none → dx ≠ x → spI1 (N.c .choice) (.ref x :: ([.ref l] ++ [])) (upd (upd H dx (.own x)) x (.ins (N.c .choice) dx [])) (fun v H2 => v = .non ∧ Q (.ref x) H2) E := by
  obtain ⟨as, hl, hp⟩ := hl
  exact rd_mk1 hl fun x H' dx t s e1 e2 => k x H' s (by rw [PatAt]; exact ⟨dx, t, as, e1, e2, hp.fz (fz_same s)⟩)
theorem mk_mixed {H : Hp} {l : Addr} {ps : List Pat} {Q : VK} {E : XK} (hl : LstAt N H ps l) (k : ∀ x H', Same H H' → PatAt N H' (.mixed ps) x → Q (.ref x) H') :
    ∀ x dx, H x = none → H dx = none → dx ≠ x → spI1 (N.c .mixed) (.ref x :: ([.ref l] ++ [])) (upd (upd H dx (.own x)) x (.ins (N.c .mixed) dx [])) (fun v H2 => v = .non ∧ Q (.ref x) H2) E := by
  obtain ⟨as, hl, hp⟩ := hl
  exact rd_mk1 hl fun x H' dx t s e1 e2 => k x H' s (by rw [PatAt]; exact ⟨dx, t, as, e1, e2, hp.fz (fz_same s)⟩)
/-! ### one, is_empty -/
def spOne1 (N : Nm) : Sp := sp1 fun v H Q => ∃ f, v = .str f ∧ ∀ a H', Same H H' → PatAt N H' (.one f) a → Q (.ref a) H'
theorem scOne : FnScope ["form"] ["form"] (defScope sOne) := ⟨rfl, rfl, rfl, by decide +kernel, rfl, by decide +kernel, by decide +kernel⟩
theorem ok_one (T : Tx K mg N) : Cal P w K mg base 3 "one" (spOne1 N) [] := by
  refine T.d_one.cal scOne (fun _ _ _ _ _ _ us hl => match us, hl with | [_], _ => rfl) len1 (fun f cdv A outer s H vs Q E hr h => ?_)
  obtain ⟨_, rfl, x, rfl, k⟩ := h
  refine ⟨_, pss_one (ps_ret (pe_mk (ok_OneInit T) hr (by decide) rfl (pa_cons (pv 0) pa_nil))), ?_⟩
  refine ⟨_, rfl, fun y dx hx hd hne => ⟨_, _, rfl, y, dx, x, rfl, rfl, upd_same, rfl, k y _ (fun b o e => ?_) ?_⟩⟩
  · rw [upd_ne (ne_of_none e hx), upd_ne (ne_of_none e hx), upd_ne (ne_of_none e hd)]
    exact e
  · rw [PatAt]
    exact ⟨dx, upd_same⟩

theorem isi_ty (T : Tx K mg N) {H : Hp} {p : Pat} {a : Addr} (h : PatAt N H p a) : TyX K H (.ref a) (.ref (N.c (kdOf p))) := by
  obtain ⟨dx, fs, e, _⟩ := pat_ins h
  have cl : Cls K (N.c (kdOf p)) := by
    cases p
    · exact T.cl_One
    · exact T.cl_Chain
    · exact T.cl_Choice
    · exact T.cl_Times
    · exact T.cl_Mixed
  exact .base (.ins e cl (T.iscl (kdOf p)).1 T.isc.1 T.isc.2 (T.iscl (kdOf p)).2.1)
def spEmp (N : Nm) : Sp := sp1 fun v H Q => ∃ a p, v = .ref a ∧ PatAt N H p a ∧ Q (.bl (isEmpty p)) H
theorem scIsEmpty : FnScope ["part"] ["part"] (defScope sIsEmpty) := ⟨rfl, rfl, rfl, by decide +kernel, rfl, by decide +kernel, by decide +kernel⟩
theorem ok_is_empty (T : Tx K mg N) : Cal P w K mg base 1 "is_empty" (spEmp N) [] := by
  refine T.d_is_empty.cal scIsEmpty (fun _ _ _ _ _ _ us hl => match us, hl with | [_], _ => rfl) len1 (fun f cdv A outer s H vs Q E hr h => ?_)
  obtain ⟨_, rfl, a, p, rfl, hp, k⟩ := h
  refine ⟨_, pss_one (ps_ret (pe_and (pe_callB call_isi (by rfl) T.z_isinstance (by decide +kernel) (pa_cons (pv 0) (pa_cons (pe_glob (v := .ref (N.c .chain)) rfl T.g_Chain rfl) pa_nil))) (pe_one (pe_cmpR op_eq (pe_callB call_len_seq (by rfl) T.z_len PySem.boot_len (pa_cons (pe_fld (pv 0) rfl) pa_nil)) pe_int (nomark _))))), ?_⟩
  refine ⟨_, rfl, _, _, _, _, _, rfl, .own _, isi_ty T hp, T.isk _ _, _, rfl, ?_⟩
  cases p with
  | chain ps =>
    rw [PatAt] at hp
    obtain ⟨dx, t, bs, ea, et, hps⟩ := hp
    have hl := pats_len hps
    refine iteT ?_
    refine ⟨_, rfl, a, _, dx, _, _, rfl, ea, T.cl_Chain, T.na_Chain_parts, look0, t, _, rfl, .inr (SqT.of et), rfl, ?_⟩
    rw [List.length_map, hl]
    cases ps with
    | nil => exact k
    | cons p ps => exact k
  | one x => exact iteF k
  | choice ps => exact iteF k
  | times p lo hi => exact iteF k
  | mixed ps => exact iteF k
/-! ### each_once -/
theorem take_snoc {α : Type} {xs : List α} {i : Nat} {x : α} (h : xs[i]? = some x) : xs.take (i + 1) = xs.take i ++ [x] := by
  rw [List.take_succ, h]; rfl
def spOnce (N : Nm) (n : Nat) : Sp := sp1 fun v H Q => ∃ l ps, v = .ref l ∧ LstAt N H ps l ∧ (∀ p ∈ ps, Sm p) ∧ dps ps ≤ n ∧ ps.length ≤ 4000000 ∧ ∀ l' H', Same H H' → LstAt N H' (once ps) l' → Q (.ref l') H'
theorem penS_inj {p q : Pat} (hp : Cn p) (hq : Cn q) (e : penS p = penS q) : p = q := by
  refine penL_inj hp hq ?_
  have := congrArg (fun z : Str => z.cps.toList) e
  simpa [penS, SX.S] using this
def SeenAt (kvs : List (Key × V)) (ps : List Pat) : Prop := kvs.length ≤ ps.length ∧ ∀ s : Str, (valV kvs (Sum.inr s)).isSome = true ↔ ∃ p ∈ ps, penS p = s
theorem putK_len (kvs : List (Key × V)) (k : Key) (v : V) : (putK kvs k v).length ≤ kvs.length + 1 := by
  unfold putK
  split
  · rw [List.length_map]; omega
  · simp
theorem seen_put {kvs : List (Key × V)} {ps : List Pat} {p : Pat} {v : V} (h : SeenAt kvs ps) : SeenAt (putK kvs (Sum.inr (penS p)) v) (ps ++ [p]) := by
  refine ⟨by have := putK_len kvs (Sum.inr (penS p)) v; have := h.1; simp; omega, fun s => ?_⟩
  rw [valV_put]
  by_cases e : (Sum.inr s : Key) = Sum.inr (penS p)
  · rw [if_pos e]
    refine ⟨fun _ => ⟨p, by simp, by injection e with e; exact e.symm⟩, fun _ => rfl⟩
  · rw [if_neg e, h.2 s]
    constructor
    · rintro ⟨q, hq, e2⟩
      exact ⟨q, List.mem_append_left _ hq, e2⟩
    · rintro ⟨q, hq, e2⟩
      rcases List.mem_append.mp hq with h1 | h1
      · exact ⟨q, h1, e2⟩
      · rw [List.mem_singleton] at h1
        subst h1
        exact absurd (by rw [e2]) e
theorem scEachOnce : FnScope ["parts", "known", "kept", "part", "told"] ["parts"] (defScope sEachOnce) := ⟨rfl, rfl, rfl, by decide +kernel, rfl, by decide +kernel, by decide +kernel⟩
theorem ok_each_once (T : Tx K mg N) (n : Nat) : Cal P w K mg base (2 * n + 1) "each_once" (spOnce N n) [] := by
  refine T.d_each_once.cal scEachOnce (fun _ _ _ _ _ _ us hl => match us, hl with | [_], _ => rfl) len1 (fun f cdv A outer s H vs Q E hr h => ?_)
  obtain ⟨_, rfl, l, ps, rfl, ⟨as, hl, hp⟩, hs, hd, hlen, k⟩ := h
  have hu := hu_of hr
  refine ⟨_, pss_cons (ps_set (i := 1) scEachOnce.nd rfl (Or.inl rfl) pe_dnewK) (pss_cons (ps_set (i := 2) scEachOnce.nd rfl (Or.inl rfl) (pe_lst pa_nil))
    (pss_cons (ps_for PassesOwn.never rfl (pi_list (pv 0)) (pg_name (i := 3) scEachOnce.nd rfl (Or.inl rfl))
      (pss_cons (ps_set (i := 4) scEachOnce.nd rfl (Or.inl rfl) (pe_c (ok_penned T n) hr (by omega) rfl (pa_cons (KR.pe_meth0D (pv 3) (fun i => met_md (ok_told T n i)) hr (Nat.le_refl _)) pa_nil)))
        (pss_one (ps_if (pt_cmp (pc_dnotin hu (pv 4) (pv 1))) (pss_cons (ps_dput hu (pv 1) (pv 4) pe_bl rfl) (pss_one (ps_expr (pe_bm PySem.F.plainAttrs_list PySem.F.slot_list_append PySem.F.type_list_append mt_append (pv 2) (pa_cons (pv 3) pa_nil))))) pss_nil))))
      (pss_one (ps_ret (pv 2))))), ?_⟩
  intro d hd0
  refine ⟨(by show 0 ≤ sizeLine; decide), fun g hg0 => ?_⟩
  have S0 : Same H (upd (upd H d (.dK [])) g (.lst [])) := (same_new hd0 _).trans (same_new hg0 _)
  have hln := pats_len hp
  refine ⟨_, rfl, l, rfl, ⟨_, SqL.of (S0 _ _ hl)⟩, for_list (xs := as.map V.ref) (fun i σ H' => ∃ u1 u2, σ = [some (.ref l), some (.ref d), some (.ref g), u1, u2] ∧ Same H H' ∧ ∃ kvs bs, H' d = some (.dK kvs) ∧ H' g = some (.lst (bs.map V.ref)) ∧ PatsAt N H' (once (ps.take i)) bs ∧ SeenAt kvs (ps.take i)) ?_ ?_ ?_ ?_⟩
  · refine ⟨none, none, rfl, S0, [], [], ?_, upd_same, by rw [List.take_zero, once_nil]; simp [PatsAt], by simp, fun s => by simp [valV]⟩
    rw [upd_ne (ne_of_none upd_same hg0)]
    exact upd_same
  · rintro i σ H' hi ⟨u1, u2, rfl, s', _⟩
    exact SqL.of (s' _ _ hl)
  · rintro i x σ H' hx ⟨u1, u2, rfl, s', kvs, bs, hdd, hgg, hbs, hsn⟩
    have hi : i < as.length := by have := (List.getElem?_eq_some_iff.mp hx).1; rw [List.length_map] at this; exact this
    obtain ⟨a, p, e1, e2, e3, e4⟩ := pats_at hp hi hx
    subst e1
    have e5 := e4.fz (fz_same s')
    have hm : p ∈ ps := List.mem_of_getElem? e3
    have hpd := dps_mem hm
    obtain ⟨dx, fs, i1, i2, _⟩ := pat_ins e5
    refine ⟨_, rfl, kdOf p, a, dx, fs, rfl, i1, i2, _, rfl, a, p, rfl, rfl, e5, hs p hm, by omega, fun v' H4 s4 d4 => ⟨_, rfl, p, d4, hs p hm, by omega, fun H5 s5 => ?_⟩⟩
    have s6 := s4.trans s5
    have hdd2 := s6 _ _ hdd
    have hgg2 := s6 _ _ hgg
    refine ⟨_, rfl, _, rfl, d, _, rfl, DGet.k (k := Sum.inr (penS p)) hdd2, ?_⟩
    refine ⟨_, rfl, ?_⟩
    have hil : (ps.take i).length ≤ 4000000 := by rw [List.length_take]; omega
    cases e : valV kvs (Sum.inr (penS p)) with
    | some v =>
      refine iteF ?_
      obtain ⟨q, hq, e7⟩ := (hsn.2 (penS p)).mp (by rw [e]; rfl)
      have e8 : q = p := penS_inj (hs q (List.mem_of_mem_take hq)).1 (hs p hm).1 e7
      subst e8
      refine ⟨_, _, rfl, s'.trans s6, kvs, bs, hdd2, hgg2, ?_, ?_⟩
      · rw [take_snoc e3, once_in hq]
        exact hbs.fz (fz_same s6)
      · refine ⟨by have := hsn.1; rw [take_snoc e3, List.length_append]; omega, fun z => ?_⟩
        rw [hsn.2 z, take_snoc e3]
        constructor
        · rintro ⟨r, hr2, e9⟩
          exact ⟨r, List.mem_append_left _ hr2, e9⟩
        · rintro ⟨r, hr2, e9⟩
          rcases List.mem_append.mp hr2 with h1 | h1
          · exact ⟨r, h1, e9⟩
          · rw [List.mem_singleton] at h1
            subst h1
            exact ⟨r, hq, e9⟩
    | none =>
      refine iteT ?_
      have hnot : p ∉ ps.take i := fun z => by
        have := (hsn.2 (penS p)).mpr ⟨p, z, rfl⟩
        rw [e] at this
        cases this
      have dg : d ≠ g := ne_of hdd2 hgg2 (fun z => nomatch z)
      refine ⟨_, rfl, _, rfl, d, _, rfl, DPut.k (k := Sum.inr (penS p)) hdd2 (by have := hsn.1; rw [sizeLine_eq]; omega), ?_⟩
      have hgg3 : (upd H5 d (.dK (putK kvs (Sum.inr (penS p)) (.bl true)))) g = some (.lst (bs.map V.ref)) := by rw [upd_ne (Ne.symm dg)]; exact hgg2
      have hbl := pats_len hbs
      have hol := once_len (ps.take i)
      refine ⟨_, rfl, .inl ⟨rfl, _, SqL.of hgg3⟩, _, rfl, g, _, _, rfl, rfl, hgg3, by rw [List.length_map, sizeLine_eq]; omega, ?_⟩
      have fz : Fz H' (upd (upd H5 d (.dK (putK kvs (Sum.inr (penS p)) (.bl true)))) g (.lst (bs.map V.ref ++ [.ref a]))) := (fz_same s6).trans ((but_upd.fz hdd2 (fun z => z)).trans (fz_updL hgg3))
      refine ⟨_, _, rfl, fun b o eb => ?_, putK kvs (Sum.inr (penS p)) (.bl true), bs ++ [a], ?_, ?_, ?_, ?_⟩
      · have n1 : b ≠ d := ne_of_none eb hd0
        have n2 : b ≠ g := fun z => by
          subst z
          have := same_new hd0 (.dK []) _ _ eb
          rw [hg0] at this
          cases this
        rw [upd_ne n2, upd_ne n1]
        exact s6 _ _ (s' _ _ eb)
      · rw [upd_ne dg]
        exact upd_same
      · rw [List.map_append]
        exact upd_same
      · rw [take_snoc e3, once_out hnot]
        exact pats_app (hbs.fz fz) (pats_one (e5.fz fz))
      · rw [take_snoc e3]
        exact seen_put hsn
  · rintro σ H' ⟨u1, u2, rfl, s', kvs, bs, hdd, hgg, hbs, hsn⟩
    rw [List.length_map, hln, List.take_length] at hbs
    exact ⟨_, rfl, k g H' s' ⟨bs, hgg, hbs⟩⟩

end
end KG
end
section
set_option Elab.async false
set_option linter.all false
set_option autoImplicit false
set_option maxRecDepth 100000
set_option maxHeartbeats 4000000
/-! ## chain, mixed, choice, times -/
namespace KG
open PySem PySem.Spec PyProof.Rows L2 KM
open C8 (Cal Met Mak pe_c pe_mk pe_mt pe_mt0)
section
variable {P : Program} {w : World} {K : PySem.W.Frag} {mg : Str → Option Value} {base : Heap} {N : Nm}
theorem fm_take {f : Pat → List Pat} {ps : List Pat} {i : Nat} {p : Pat} (h : ps[i]? = some p) : (ps.take (i + 1)).flatMap f = (ps.take i).flatMap f ++ f p := by
  rw [take_snoc h, List.flatMap_append]
  simp
theorem fm_len {f : Pat → List Pat} (hf : ∀ p, (f p).length ≤ sz p + 1) : ∀ ps : List Pat, (ps.flatMap f).length ≤ szs ps
  | [] => by simp
  | p :: ps => by
    rw [List.flatMap_cons, List.length_append, szs]
    have := fm_len hf ps
    have := hf p
    omega
theorem szs_take : ∀ (ps : List Pat) (i : Nat), szs (ps.take i) ≤ szs ps
  | [], i => by simp
  | p :: ps, 0 => by rw [List.take_zero, szs]; omega
  | p :: ps, i + 1 => by
    rw [List.take_succ_cons, szs, szs]
    have := szs_take ps i
    omega
theorem parts_len (p : Pat) : (parts p).length ≤ sz p + 1 := by
  have := szs_parts p
  have := szs_len (parts p)
  omega
theorem mparts_len (p : Pat) : (mparts p).length ≤ sz p + 1 := by
  have := szs_mparts p
  have := szs_len (mparts p)
  omega
theorem oparts_len (p : Pat) : (oparts p).length ≤ sz p + 1 := by
  cases p with
  | choice ps => rw [oparts, sz]; have := szs_len ps; omega
  | _ => simp [oparts]
/-- kind and parts -/
theorem pat_chain {H : Hp} {p : Pat} {a : Addr} (h : PatAt N H p a) (k : kdOf p = .chain) : ∃ dx t bs, H a = some (.ins (N.c .chain) dx [("parts", .ref t)]) ∧ H t = some (.tup (bs.map V.ref)) ∧ PatsAt N H (parts p) bs := by
  cases p with
  | chain ps => rw [PatAt] at h; exact h
  | _ => cases k
theorem pat_choice {H : Hp} {p : Pat} {a : Addr} (h : PatAt N H p a) (k : kdOf p = .choice) : ∃ dx t bs, H a = some (.ins (N.c .choice) dx [("parts", .ref t)]) ∧ H t = some (.tup (bs.map V.ref)) ∧ PatsAt N H (oparts p) bs := by
  cases p with
  | choice ps => rw [PatAt] at h; exact h
  | _ => cases k
theorem pat_mixed {H : Hp} {p : Pat} {a : Addr} (h : PatAt N H p a) (k : kdOf p = .mixed) : ∃ dx t bs, H a = some (.ins (N.c .mixed) dx [("parts", .ref t)]) ∧ H t = some (.tup (bs.map V.ref)) ∧ PatsAt N H (mparts p) bs := by
  cases p with
  | mixed ps => rw [PatAt] at h; exact h
  | _ => cases k
theorem parts_other {p : Pat} (k : kdOf p ≠ .chain) : parts p = [p] := by
  cases p <;> first | rfl | exact absurd rfl k
theorem oparts_other {p : Pat} (k : kdOf p ≠ .choice) : oparts p = [p] := by
  cases p <;> first | rfl | exact absurd rfl k
theorem mparts_other {p : Pat} (k : kdOf p ≠ .mixed) (e : isEmpty p = false) : mparts p = [p] := by
  cases p with
  | chain ps =>
    cases ps with
    | nil => cases e
    | cons q qs => rfl
  | mixed ps => exact absurd rfl k
  | _ => rfl
theorem mparts_empty {p : Pat} (e : isEmpty p = true) : mparts p = [] := by
  rw [isEmpty_eq e]
  rfl
/-- what is gathered in one list -/
def Gat (N : Nm) (H : Hp) (g : Addr) (qs : List Pat) (H' : Hp) : Prop := (∀ b o, b ≠ g → H b = some o → H' b = some o) ∧ ∃ bs : List Addr, H' g = some (.lst (bs.map V.ref)) ∧ PatsAt N H' qs bs
theorem Gat.add {H H' : Hp} {g : Addr} {qs rs : List Pat} {cs : List Addr} (h : Gat N H g qs H') (hc : PatsAt N H' rs cs) {bs : List Addr} (hg : H' g = some (.lst (bs.map V.ref))) (hb : PatsAt N H' qs bs) :
    Gat N H g (qs ++ rs) (upd H' g (.lst (bs.map V.ref ++ cs.map V.ref))) := by
  have fz : Fz H' (upd H' g (.lst (bs.map V.ref ++ cs.map V.ref))) := fz_updL hg
  refine ⟨fun b o hb2 e => by rw [upd_ne hb2]; exact h.1 b o hb2 e, bs ++ cs, ?_, pats_app (hb.fz fz) (hc.fz fz)⟩
  rw [List.map_append]
  exact upd_same
theorem gat_new {H : Hp} {g : Addr} (h : H g = none) : Gat N H g [] (upd H g (.lst [])) := ⟨fun b o hb e => by rw [upd_ne hb]; exact e, [], upd_same, by simp [PatsAt]⟩
theorem Gat.same {H H' : Hp} {g : Addr} {qs : List Pat} (h : Gat N H g qs H') (hg : H g = none) : Same H H' := fun b o e => h.1 b o (ne_of_none e hg) e
theorem Gat.keep {H H' H2 : Hp} {g : Addr} {qs : List Pat} (h : Gat N H g qs H') (s : Same H' H2) : Gat N H g qs H2 := by
  obtain ⟨h1, bs, h2, h3⟩ := h
  exact ⟨fun b o hb e => s _ _ (h1 b o hb e), bs, s _ _ h2, h3.fz (fz_same s)⟩
/-! ### chain -/
def spChain (N : Nm) : Sp := sp1 fun v H Q => ∃ l ps, v = .ref l ∧ LstAt N H ps l ∧ szs ps ≤ 4000000 ∧ ∀ a H', Same H H' → PatAt N H' (chain' ps) a → Q (.ref a) H'
theorem scChain : FnScope ["parts", "opened", "part"] ["parts"] (defScope sChain) := ⟨rfl, rfl, rfl, by decide +kernel, rfl, by decide +kernel, by decide +kernel⟩
theorem ok_chain (T : Tx K mg N) : Cal P w K mg base 3 "chain" (spChain N) [] := by
  refine T.d_chain.cal scChain (fun _ _ _ _ _ _ us hl => match us, hl with | [_], _ => rfl) len1 (fun f cdv A outer s H vs Q E hr h => ?_)
  obtain ⟨_, rfl, l, ps, rfl, ⟨as, hl, hp⟩, hz, k⟩ := h
  refine ⟨_, pss_cons (ps_set (i := 1) scChain.nd rfl (Or.inl rfl) (pe_lst pa_nil))
    (pss_cons (ps_for PassesOwn.never rfl (pi_list (pv 0)) (pg_name (i := 2) scChain.nd rfl (Or.inl rfl))
      (pss_one (ps_if (pt_val (pe_callB call_isi (by rfl) T.z_isinstance (by decide +kernel) (pa_cons (pv 2) (pa_cons (pe_glob (v := .ref (N.c .chain)) rfl T.g_Chain rfl) pa_nil))))
        (pss_one (ps_expr (pe_bm PySem.F.plainAttrs_list PySem.F.slot_list_extend PySem.F.type_list_extend mt_extend (pv 1) (pa_cons (pe_callTy call_list_of rfl T.z_list boot_list (pa_cons (pe_fld (pv 2) rfl) pa_nil)) pa_nil))))
        (pss_one (ps_expr (pe_bm PySem.F.plainAttrs_list PySem.F.slot_list_append PySem.F.type_list_append mt_append (pv 1) (pa_cons (pv 2) pa_nil)))))))
      (pss_cons (ps_if (pt_cmpR op_eq (pe_callB call_len_seq (by rfl) T.z_len PySem.boot_len (pa_cons (pv 1) pa_nil)) pe_int (nomark _)) (pss_one (ps_ret (pe_ix ix_list (pv 1) pe_int (fun _ _ => rfl)))) pss_nil)
        (pss_one (ps_ret (pe_mk (ok_ChainInit T) hr (by decide) rfl (pa_cons (pv 1) pa_nil)))))), ?_⟩
  refine ⟨(by show 0 ≤ sizeLine; decide), fun g hg0 => ?_⟩
  have hln := pats_len hp
  have hla : ∀ i, (fl (ps.take i)).length ≤ 4000000 := fun i => Nat.le_trans (Nat.le_trans (fm_len parts_len _) (szs_take ps i)) hz
  refine ⟨_, rfl, l, rfl, ⟨_, SqL.of (same_new hg0 _ _ _ hl)⟩, for_list (xs := as.map V.ref) (fun i σ H' => ∃ u, σ = [some (.ref l), some (.ref g), u] ∧ Gat N H g (fl (ps.take i)) H') ?_ ?_ ?_ ?_⟩
  · exact ⟨none, rfl, gat_new hg0⟩
  · rintro i σ H' hi ⟨u, rfl, G⟩
    exact SqL.of (G.same hg0 _ _ hl)
  · rintro i x σ H' hx ⟨u, rfl, G⟩
    have s' := G.same hg0
    obtain ⟨_, bs, hgg, hbs⟩ := id G
    have hi : i < as.length := by have := (List.getElem?_eq_some_iff.mp hx).1; rw [List.length_map] at this; exact this
    obtain ⟨a, p, e1, e2, e3, e4⟩ := pats_at hp hi hx
    subst e1
    have e5 := e4.fz (fz_same s')
    have hbl := pats_len hbs
    have h1 := hla i
    have h2 := hla (i + 1)
    have e6 : fl (ps.take (i + 1)) = fl (ps.take i) ++ parts p := fm_take e3
    rw [e6, List.length_append] at h2
    refine ⟨_, rfl, _, _, _, _, _, rfl, .own _, isi_ty T e5, T.isk _ _, _, rfl, ?_⟩
    by_cases hk : kdOf p = .chain
    · rw [decide_eq_true hk]
      refine iteT ?_
      obtain ⟨dx, t, cs, ea, et, hcs⟩ := pat_chain e5 hk
      refine ⟨_, rfl, .inl ⟨rfl, _, SqL.of hgg⟩, _, rfl, a, _, dx, _, _, rfl, ea, T.cl_Chain, T.na_Chain_parts, look0, t, _, rfl, .inr (SqT.of et), fun m hm => ?_⟩
      have s2 : Same H' (upd H' m (.lst (cs.map V.ref))) := same_new hm _
      have hcl := pats_len hcs
      refine ⟨g, m, _, _, rfl, rfl, s2 _ _ hgg, upd_same, by rw [List.length_map, List.length_map, sizeLine_eq]; omega, ?_⟩
      refine ⟨_, rfl, ?_⟩
      rw [e6]
      exact (G.keep s2).add (hcs.fz (fz_same s2)) (s2 _ _ hgg) (hbs.fz (fz_same s2))
    · rw [decide_eq_false hk]
      refine iteF ?_
      refine ⟨_, rfl, .inl ⟨rfl, _, SqL.of hgg⟩, _, rfl, g, _, _, rfl, rfl, hgg, by rw [List.length_map, sizeLine_eq]; omega, ?_⟩
      refine ⟨_, rfl, ?_⟩
      rw [e6, parts_other hk]
      exact G.add (pats_one e5) hgg hbs
  · rintro σ H' ⟨u, rfl, G⟩
    rw [List.length_map, hln, List.take_length] at G
    have s' := G.same hg0
    obtain ⟨_, bs, hgg, hbs⟩ := id G
    have hbl := pats_len hbs
    refine ⟨_, rfl, g, _, rfl, .inl (SqL.of hgg), rfl, _, rfl, ?_⟩
    rw [List.length_map, hbl]
    show if decide (V.int ((fl ps).length : Nat) = V.int 1) = true then _ else _
    unfold chain' at k
    revert k hbs
    generalize fl ps = fs at *
    intro k hbs
    match fs, bs, hbs with
    | [], [], hbs =>
      refine iteF ?_
      exact ⟨_, rfl, mk_chain ⟨[], hgg, hbs⟩ fun x H2 s2 hx => k x H2 (s'.trans s2) hx⟩
    | [q], [b], hbs =>
      refine iteT ?_
      refine ⟨_, rfl, g, _, _, _, rfl, rfl, SqL.of hgg, at0, k b H' s' ?_⟩
      rw [PatsAt] at hbs
      exact hbs.1
    | q :: r :: qs, bs, hbs =>
      rw [dec_int]
      have : ((((q :: r :: qs).length : Nat) : Int) == 1) = false := by
        rw [beq_eq_false_iff_ne]
        simp only [List.length_cons]
        omega
      rw [this]
      refine iteF ?_
      exact ⟨_, rfl, mk_chain ⟨bs, hgg, hbs⟩ fun x H2 s2 hx => k x H2 (s'.trans s2) hx⟩
/-! ### choice -/
def spChoice (N : Nm) (n : Nat) : Sp := sp1 fun v H Q => ∃ l ps, v = .ref l ∧ LstAt N H ps l ∧ (∀ p ∈ ps, Sm p) ∧ dps ps ≤ n ∧ szs ps ≤ 4000000 ∧ ∀ a H', Same H H' → PatAt N H' (choice' ps) a → Q (.ref a) H'
theorem scChoice : FnScope ["parts", "opened", "part"] ["parts"] (defScope sChoice) := ⟨rfl, rfl, rfl, by decide +kernel, rfl, by decide +kernel, by decide +kernel⟩
theorem ok_choice (T : Tx K mg N) (n : Nat) : Cal P w K mg base (2 * n + 3) "choice" (spChoice N n) [] := by
  refine T.d_choice.cal scChoice (fun _ _ _ _ _ _ us hl => match us, hl with | [_], _ => rfl) len1 (fun f cdv A outer s H vs Q E hr h => ?_)
  obtain ⟨_, rfl, l, ps, rfl, ⟨as, hl, hp⟩, hs, hd, hz, k⟩ := h
  refine ⟨_, pss_cons (ps_set (i := 1) scChoice.nd rfl (Or.inl rfl) (pe_lst pa_nil))
    (pss_cons (ps_for PassesOwn.never rfl (pi_list (pv 0)) (pg_name (i := 2) scChoice.nd rfl (Or.inl rfl))
      (pss_one (ps_if (pt_val (pe_callB call_isi (by rfl) T.z_isinstance (by decide +kernel) (pa_cons (pv 2) (pa_cons (pe_glob (v := .ref (N.c .choice)) rfl T.g_Choice rfl) pa_nil))))
        (pss_one (ps_expr (pe_bm PySem.F.plainAttrs_list PySem.F.slot_list_extend PySem.F.type_list_extend mt_extend (pv 1) (pa_cons (pe_callTy call_list_of rfl T.z_list boot_list (pa_cons (pe_fld (pv 2) rfl) pa_nil)) pa_nil))))
        (pss_one (ps_expr (pe_bm PySem.F.plainAttrs_list PySem.F.slot_list_append PySem.F.type_list_append mt_append (pv 1) (pa_cons (pv 2) pa_nil)))))))
      (pss_cons (ps_set (i := 1) scChoice.nd rfl (Or.inl rfl) (pe_c (ok_each_once T n) hr (by omega) rfl (pa_cons (pv 1) pa_nil))) (pss_cons (ps_if (pt_cmpR op_eq (pe_callB call_len_seq (by rfl) T.z_len PySem.boot_len (pa_cons (pv 1) pa_nil)) pe_int (nomark _)) (pss_one (ps_ret (pe_ix ix_list (pv 1) pe_int (fun _ _ => rfl)))) pss_nil)
        (pss_one (ps_ret (pe_mk (ok_ChoiceInit T) hr (by omega) rfl (pa_cons (pv 1) pa_nil))))))), ?_⟩
  refine ⟨(by show 0 ≤ sizeLine; decide), fun g hg0 => ?_⟩
  have hln := pats_len hp
  have hla : ∀ i, (flo (ps.take i)).length ≤ 4000000 := fun i => Nat.le_trans (Nat.le_trans (fm_len oparts_len _) (szs_take ps i)) hz
  refine ⟨_, rfl, l, rfl, ⟨_, SqL.of (same_new hg0 _ _ _ hl)⟩, for_list (xs := as.map V.ref) (fun i σ H' => ∃ u, σ = [some (.ref l), some (.ref g), u] ∧ Gat N H g (flo (ps.take i)) H') ?_ ?_ ?_ ?_⟩
  · exact ⟨none, rfl, gat_new hg0⟩
  · rintro i σ H' hi ⟨u, rfl, G⟩
    exact SqL.of (G.same hg0 _ _ hl)
  · rintro i x σ H' hx ⟨u, rfl, G⟩
    have s' := G.same hg0
    obtain ⟨_, bs, hgg, hbs⟩ := id G
    have hi : i < as.length := by have := (List.getElem?_eq_some_iff.mp hx).1; rw [List.length_map] at this; exact this
    obtain ⟨a, p, e1, e2, e3, e4⟩ := pats_at hp hi hx
    subst e1
    have e5 := e4.fz (fz_same s')
    have hbl := pats_len hbs
    have h1 := hla i
    have h2 := hla (i + 1)
    have e6 : flo (ps.take (i + 1)) = flo (ps.take i) ++ oparts p := fm_take e3
    rw [e6, List.length_append] at h2
    refine ⟨_, rfl, _, _, _, _, _, rfl, .own _, isi_ty T e5, T.isk _ _, _, rfl, ?_⟩
    by_cases hk : kdOf p = .choice
    · rw [decide_eq_true hk]
      refine iteT ?_
      obtain ⟨dx, t, cs, ea, et, hcs⟩ := pat_choice e5 hk
      refine ⟨_, rfl, .inl ⟨rfl, _, SqL.of hgg⟩, _, rfl, a, _, dx, _, _, rfl, ea, T.cl_Choice, T.na_Choice_parts, look0, t, _, rfl, .inr (SqT.of et), fun m hm => ?_⟩
      have s2 : Same H' (upd H' m (.lst (cs.map V.ref))) := same_new hm _
      have hcl := pats_len hcs
      refine ⟨g, m, _, _, rfl, rfl, s2 _ _ hgg, upd_same, by rw [List.length_map, List.length_map, sizeLine_eq]; omega, ?_⟩
      refine ⟨_, rfl, ?_⟩
      rw [e6]
      exact (G.keep s2).add (hcs.fz (fz_same s2)) (s2 _ _ hgg) (hbs.fz (fz_same s2))
    · rw [decide_eq_false hk]
      refine iteF ?_
      refine ⟨_, rfl, .inl ⟨rfl, _, SqL.of hgg⟩, _, rfl, g, _, _, rfl, rfl, hgg, by rw [List.length_map, sizeLine_eq]; omega, ?_⟩
      refine ⟨_, rfl, ?_⟩
      rw [e6, oparts_other hk]
      exact G.add (pats_one e5) hgg hbs
  · rintro σ H' ⟨u, rfl, G⟩
    rw [List.length_map, hln, List.take_length] at G
    have s' := G.same hg0
    obtain ⟨_, bs, hgg, hbs⟩ := id G
    have hsm : ∀ q ∈ flo ps, Sm q := fun q hq => by
      obtain ⟨p, hp2, hq2⟩ := List.mem_flatMap.mp hq
      have := hs p hp2
      cases p with
      | choice qs => exact (sm_parts this (.inr (.inl rfl))).1 q hq2
      | _ =>
        have hq3 := List.mem_singleton.mp hq2
        subst hq3
        exact this
    have hdd : ∀ qs : List Pat, dps (flo qs) ≤ dps qs := fun qs => by
      induction qs with
      | nil => simp [flo, dps]
      | cons q qs ih =>
        show dps (oparts q ++ flo qs) ≤ _
        rw [dps_append, dps]
        have : dps (oparts q) ≤ dp q := by
          cases q with
          | choice rs => rw [oparts, dp]; omega
          | _ => simp [oparts, dps]
        omega
    have hd2 := hdd ps
    have hl2 := fm_len oparts_len ps
    refine ⟨_, rfl, _, rfl, g, flo ps, rfl, ⟨bs, hgg, hbs⟩, hsm, by omega, by unfold flo; omega, fun l' H2 s2 hl' => ?_⟩
    obtain ⟨bs, hgg, hbs⟩ := hl'
    have hbl := pats_len hbs
    have s' := s'.trans s2
    refine ⟨_, rfl, l', _, rfl, .inl (SqL.of hgg), rfl, _, rfl, ?_⟩
    rw [List.length_map, hbl]
    show if decide (V.int ((once (flo ps)).length : Nat) = V.int 1) = true then _ else _
    unfold choice' at k
    revert k hbs hbl
    generalize once (flo ps) = fs
    intro k hbs hbl
    match fs, bs, hbs with
    | [], [], hbs =>
      refine iteF ?_
      exact ⟨_, rfl, mk_choice ⟨[], hgg, hbs⟩ fun x H2 s2 hx => k x H2 (s'.trans s2) hx⟩
    | [q], [b], hbs =>
      refine iteT ?_
      refine ⟨_, rfl, l', _, _, _, rfl, rfl, SqL.of hgg, at0, k b H2 s' ?_⟩
      rw [PatsAt] at hbs
      exact hbs.1
    | q :: r :: qs, bs, hbs =>
      rw [dec_int]
      have : ((((q :: r :: qs).length : Nat) : Int) == 1) = false := by
        rw [beq_eq_false_iff_ne]
        simp only [List.length_cons]
        omega
      rw [this]
      refine iteF ?_
      exact ⟨_, rfl, mk_choice ⟨bs, hgg, hbs⟩ fun x H2 s2 hx => k x H2 (s'.trans s2) hx⟩
/-! ### mixed -/
def spMixed (N : Nm) : Sp := sp1 fun v H Q => ∃ l ps, v = .ref l ∧ LstAt N H ps l ∧ szs ps ≤ 4000000 ∧ ∀ a H', Same H H' → PatAt N H' (mixed' ps) a → Q (.ref a) H'
theorem scMixed : FnScope ["parts", "opened", "part"] ["parts"] (defScope sMixed) := ⟨rfl, rfl, rfl, by decide +kernel, rfl, by decide +kernel, by decide +kernel⟩
theorem ok_mixed (T : Tx K mg N) : Cal P w K mg base 3 "mixed" (spMixed N) [] := by
  refine T.d_mixed.cal scMixed (fun _ _ _ _ _ _ us hl => match us, hl with | [_], _ => rfl) len1 (fun f cdv A outer s H vs Q E hr h => ?_)
  obtain ⟨_, rfl, l, ps, rfl, ⟨as, hl, hp⟩, hz, k⟩ := h
  refine ⟨_, pss_cons (ps_set (i := 1) scMixed.nd rfl (Or.inl rfl) (pe_lst pa_nil))
    (pss_cons (ps_for PassesOwn.never rfl (pi_list (pv 0)) (pg_name (i := 2) scMixed.nd rfl (Or.inl rfl))
      (pss_one (ps_if (pt_val (pe_callB call_isi (by rfl) T.z_isinstance (by decide +kernel) (pa_cons (pv 2) (pa_cons (pe_glob (v := .ref (N.c .mixed)) rfl T.g_Mixed rfl) pa_nil))))
        (pss_one (ps_expr (pe_bm PySem.F.plainAttrs_list PySem.F.slot_list_extend PySem.F.type_list_extend mt_extend (pv 1) (pa_cons (pe_callTy call_list_of rfl T.z_list boot_list (pa_cons (pe_fld (pv 2) rfl) pa_nil)) pa_nil))))
        (pss_one (ps_if (pt_not (pt_val (pe_c (ok_is_empty T) hr (by decide) rfl (pa_cons (pv 2) pa_nil)))) (pss_one (ps_expr (pe_bm PySem.F.plainAttrs_list PySem.F.slot_list_append PySem.F.type_list_append mt_append (pv 1) (pa_cons (pv 2) pa_nil)))) pss_nil)))))
      (pss_cons (ps_if (pt_cmpR op_eq (pe_callB call_len_seq (by rfl) T.z_len PySem.boot_len (pa_cons (pv 1) pa_nil)) pe_int (nomark _)) (pss_one (ps_ret (pe_mk (ok_ChainInit T) hr (by decide) rfl (pa_cons (pe_lst pa_nil) pa_nil)))) pss_nil)
      (pss_cons (ps_if (pt_cmpR op_eq (pe_callB call_len_seq (by rfl) T.z_len PySem.boot_len (pa_cons (pv 1) pa_nil)) pe_int (nomark _)) (pss_one (ps_ret (pe_ix ix_list (pv 1) pe_int (fun _ _ => rfl)))) pss_nil)
        (pss_one (ps_ret (pe_mk (ok_MixedInit T) hr (by decide) rfl (pa_cons (pv 1) pa_nil))))))), ?_⟩
  refine ⟨(by show 0 ≤ sizeLine; decide), fun g hg0 => ?_⟩
  have hln := pats_len hp
  have hla : ∀ i, (flm (ps.take i)).length ≤ 4000000 := fun i => Nat.le_trans (Nat.le_trans (fm_len mparts_len _) (szs_take ps i)) hz
  refine ⟨_, rfl, l, rfl, ⟨_, SqL.of (same_new hg0 _ _ _ hl)⟩, for_list (xs := as.map V.ref) (fun i σ H' => ∃ u, σ = [some (.ref l), some (.ref g), u] ∧ Gat N H g (flm (ps.take i)) H') ?_ ?_ ?_ ?_⟩
  · exact ⟨none, rfl, gat_new hg0⟩
  · rintro i σ H' hi ⟨u, rfl, G⟩
    exact SqL.of (G.same hg0 _ _ hl)
  · rintro i x σ H' hx ⟨u, rfl, G⟩
    have s' := G.same hg0
    obtain ⟨_, bs, hgg, hbs⟩ := id G
    have hi : i < as.length := by have := (List.getElem?_eq_some_iff.mp hx).1; rw [List.length_map] at this; exact this
    obtain ⟨a, p, e1, e2, e3, e4⟩ := pats_at hp hi hx
    subst e1
    have e5 := e4.fz (fz_same s')
    have hbl := pats_len hbs
    have h1 := hla i
    have h2 := hla (i + 1)
    have e6 : flm (ps.take (i + 1)) = flm (ps.take i) ++ mparts p := fm_take e3
    rw [e6, List.length_append] at h2
    refine ⟨_, rfl, _, _, _, _, _, rfl, .own _, isi_ty T e5, T.isk _ _, _, rfl, ?_⟩
    by_cases hk : kdOf p = .mixed
    · rw [decide_eq_true hk]
      refine iteT ?_
      obtain ⟨dx, t, cs, ea, et, hcs⟩ := pat_mixed e5 hk
      refine ⟨_, rfl, .inl ⟨rfl, _, SqL.of hgg⟩, _, rfl, a, _, dx, _, _, rfl, ea, T.cl_Mixed, T.na_Mixed_parts, look0, t, _, rfl, .inr (SqT.of et), fun m hm => ?_⟩
      have s2 : Same H' (upd H' m (.lst (cs.map V.ref))) := same_new hm _
      have hcl := pats_len hcs
      refine ⟨g, m, _, _, rfl, rfl, s2 _ _ hgg, upd_same, by rw [List.length_map, List.length_map, sizeLine_eq]; omega, ?_⟩
      refine ⟨_, rfl, ?_⟩
      rw [e6]
      exact (G.keep s2).add (hcs.fz (fz_same s2)) (s2 _ _ hgg) (hbs.fz (fz_same s2))
    · rw [decide_eq_false hk]
      refine iteF ?_
      refine ⟨_, rfl, _, rfl, a, p, rfl, e5, _, rfl, ?_⟩
      cases em : isEmpty p with
      | true =>
        refine iteF ?_
        refine ⟨_, rfl, ?_⟩
        rw [e6, mparts_empty em, List.append_nil]
        exact G
      | false =>
        refine iteT ?_
        refine ⟨_, rfl, .inl ⟨rfl, _, SqL.of hgg⟩, _, rfl, g, _, _, rfl, rfl, hgg, by rw [List.length_map, sizeLine_eq]; omega, ?_⟩
        refine ⟨_, rfl, ?_⟩
        rw [e6, mparts_other hk em]
        exact G.add (pats_one e5) hgg hbs
  · rintro σ H' ⟨u, rfl, G⟩
    rw [List.length_map, hln, List.take_length] at G
    have s' := G.same hg0
    obtain ⟨_, bs, hgg, hbs⟩ := id G
    have hbl := pats_len hbs
    refine ⟨_, rfl, g, _, rfl, .inl (SqL.of hgg), rfl, _, rfl, ?_⟩
    rw [List.length_map, hbl]
    show if decide (V.int ((flm ps).length : Nat) = V.int 0) = true then _ else _
    unfold mixed' at k
    revert k hbs
    generalize flm ps = fs at *
    intro k hbs
    match fs, bs, hbs with
    | [], [], hbs =>
      refine iteT ?_
      refine ⟨(by show 0 ≤ sizeLine; decide), fun l hl0 => ?_⟩
      have s2 : Same H' (upd H' l (.lst [])) := same_new hl0 _
      exact mk_chain (ps := []) ⟨[], upd_same, by simp [PatsAt]⟩ fun x H2 s3 hx => k x H2 (s'.trans (s2.trans s3)) hx
    | [q], [b], hbs =>
      refine iteF ?_
      refine ⟨_, rfl, g, _, rfl, .inl (SqL.of hgg), rfl, _, rfl, iteT ?_⟩
      refine ⟨_, rfl, g, _, _, _, rfl, rfl, SqL.of hgg, at0, k b H' s' ?_⟩
      rw [PatsAt] at hbs
      exact hbs.1
    | q :: r :: qs, bs, hbs =>
      rw [dec_int]
      have h0 : ((((q :: r :: qs).length : Nat) : Int) == 0) = false := by
        rw [beq_eq_false_iff_ne]
        simp only [List.length_cons]
        omega
      rw [h0]
      refine iteF ?_
      refine ⟨_, rfl, g, _, rfl, .inl (SqL.of hgg), rfl, _, rfl, ?_⟩
      rw [List.length_map, hbl]
      show if decide (V.int ((q :: r :: qs).length : Nat) = V.int 1) = true then _ else _
      rw [dec_int]
      have : ((((q :: r :: qs).length : Nat) : Int) == 1) = false := by
        rw [beq_eq_false_iff_ne]
        simp only [List.length_cons]
        omega
      rw [this]
      refine iteF ?_
      exact ⟨_, rfl, mk_mixed ⟨bs, hgg, hbs⟩ fun x H2 s2 hx => k x H2 (s'.trans s2) hx⟩
/-! ### times -/
def spTimes (N : Nm) : Sp := sp3 fun v u z H Q => ∃ (a : Addr) (p : Pat) (lo : Nat) (hi : Option Nat), v = .ref a ∧ u = .int lo ∧ z = hiV hi ∧ PatAt N H p a ∧ CntOk lo hi ∧ ∀ b H', Same H H' → PatAt N H' (times' p lo hi) b → Q (.ref b) H'
theorem scTimes : FnScope ["part", "low", "high"] ["part", "low", "high"] (defScope sTimes) := ⟨rfl, rfl, rfl, by decide +kernel, rfl, by decide +kernel, by decide +kernel⟩
theorem mk_times {H : Hp} {p : Pat} {a : Addr} {lo : Nat} {hi : Option Nat} {Q : VK} {E : XK} (hp : PatAt N H p a) (k : ∀ x H', Same H H' → PatAt N H' (.times p lo hi) x → Q (.ref x) H') :
    ∀ x dx, H x = none → H dx = none → dx ≠ x → spITimes (N.c .times) (.ref x :: ([.ref a, .int lo, hiV hi] ++ [])) (upd (upd H dx (.own x)) x (.ins (N.c .times) dx [])) (fun v H2 => v = .non ∧ Q (.ref x) H2) E := by
  intro x dx hx hd hne
  refine ⟨_, _, _, _, rfl, x, dx, a, lo, hi, rfl, rfl, rfl, rfl, upd_same, fun H' h1 h2 => ⟨rfl, ?_⟩⟩
  have s : Same H H' := fun b o e => by
    have n1 := ne_of_none e hx
    have n2 := ne_of_none e hd
    rw [h1 b n1, upd_ne n1, upd_ne n2]
    exact e
  refine k x H' s ?_
  rw [PatAt]
  exact ⟨dx, a, h2, hp.fz (fz_same s)⟩
theorem body_times (T : Tx K mg N) {f : Addr} {fd : FuncData} (F : FunD K "times" "times" (defArgs sTimes) (defBody sTimes) (defScope sTimes) [.int 0, .non] [] f fd) : FnOk P w K mg base CX0 3 f fd ["part", "low", "high"] (spTimes N) := by
  refine F.ok scTimes len3 (fun cdv A outer s H vs Q E hr h => body0 (q := "times") (k := 2) (sp := spTimes N) ?_ f cdv A outer s H vs Q E hr h)
  intro f cdv A outer s H vs Q E hr h
  obtain ⟨_, _, _, rfl, a, p, lo, hi, rfl, rfl, rfl, hp, hc, k⟩ := h
  refine ⟨_, pss_cons (ps_if (PW.pt (pw_or (pt_cmpR op_lt (pv 1) pe_int (nomark _)) (pw_or1 (pt_cmpR op_gt (pv 1) pe_int (nomark _))))) (pss_one ps_never) pss_nil)
    (pss_cons (ps_if (PW.pt (pw_and (pt_cmp (pc_notN (pv 2)) rfl) (pw_and1 (PW.pt (pw_or (pt_cmpR op_lt (pv 2) (pv 1) (nomark _)) (pw_or1 (pt_cmpR op_gt (pv 2) pe_int (nomark _)))))))) (pss_one ps_never) pss_nil)
    (pss_cons (ps_if (PW.pt (pw_or (pt_cmpR op_eq (pv 2) pe_int (nomark _)) (pw_or1 (pt_val (pe_c (ok_is_empty T) hr (by decide) rfl (pa_cons (pv 0) pa_nil)))))) (pss_one (ps_ret (pe_mk (ok_ChainInit T) hr (by decide) rfl (pa_cons (pe_lst pa_nil) pa_nil)))) pss_nil)
    (pss_cons (ps_if (PW.pt (pw_and (pt_cmpR op_eq (pv 1) pe_int (nomark _)) (pw_and1 (pt_cmpR op_eq (pv 2) pe_int (nomark _))))) (pss_one (ps_ret (pv 0))) pss_nil)
      (pss_one (ps_ret (pe_mk (ok_TimesInit T) hr (by decide) rfl (pa_cons (pv 0) (pa_cons (pv 1) (pa_cons (pv 2) pa_nil))))))))), ?_⟩
  have h9 := hc.1
  refine ⟨_, rfl, _, _, rfl, rfl, _, rfl, ?_⟩
  rw [show decide (((lo : Nat) : Int) < 0) = false from decide_eq_false (by omega)]
  refine iteF ?_
  refine ⟨_, rfl, _, _, rfl, rfl, _, rfl, ?_⟩
  rw [show decide (((lo : Nat) : Int) > 9) = false from decide_eq_false (by omega)]
  refine iteF ?_
  refine ⟨_, rfl, _, rfl, ?_⟩
  cases hi with
  | none =>
    refine iteF ?_
    refine iteF ?_
    refine ⟨_, rfl, rfl, _, rfl, ?_⟩
    refine iteF ?_
    refine ⟨_, rfl, _, rfl, a, p, rfl, hp, _, rfl, ?_⟩
    cases em : isEmpty p with
    | true =>
      refine iteT ?_
      refine ⟨(by show 0 ≤ sizeLine; decide), fun l hl0 => ?_⟩
      have s2 : Same H (upd H l (.lst [])) := same_new hl0 _
      exact mk_chain (ps := []) ⟨[], upd_same, by simp [PatsAt]⟩ fun x H2 s3 hx => k x H2 (s2.trans s3) (by rw [times', if_pos (.inr em)]; exact hx)
    | false =>
      refine iteF ?_
      have ek : times' p lo none = .times p lo none := by
        rw [times', if_neg (by rw [em]; rintro (z | z) <;> cases z), if_neg (by rintro ⟨_, z⟩; cases z)]
      refine ⟨_, rfl, rfl, _, rfl, ?_⟩
      refine ite2 (fun _ => ?_) (fun _ => ?_)
      · refine ⟨_, rfl, rfl, _, rfl, ?_⟩
        refine iteF ?_
        exact ⟨_, rfl, _, rfl, _, rfl, mk_times hp fun x H2 s2 hx => k x H2 s2 (by rw [ek]; exact hx)⟩
      · refine iteF ?_
        exact ⟨_, rfl, _, rfl, _, rfl, mk_times hp fun x H2 s2 hx => k x H2 s2 (by rw [ek]; exact hx)⟩
  | some h =>
    have hh := hc.2 h rfl
    refine iteT ?_
    refine ⟨_, rfl, _, rfl, _, _, rfl, rfl, _, rfl, ?_⟩
    rw [show decide (((h : Nat) : Int) < ((lo : Nat) : Int)) = false from decide_eq_false (by omega)]
    refine iteF ?_
    refine ⟨_, rfl, _, _, rfl, rfl, _, rfl, ?_⟩
    rw [show decide (((h : Nat) : Int) > 9) = false from decide_eq_false (by omega)]
    refine iteF ?_
    refine ⟨_, rfl, rfl, _, rfl, ?_⟩
    by_cases h0 : h = 0
    · subst h0
      refine iteT ?_
      refine iteT ?_
      refine ⟨(by show 0 ≤ sizeLine; decide), fun l hl0 => ?_⟩
      have s2 : Same H (upd H l (.lst [])) := same_new hl0 _
      exact mk_chain (ps := []) ⟨[], upd_same, by simp [PatsAt]⟩ fun x H2 s3 hx => k x H2 (s2.trans s3) (by rw [times', if_pos (.inl rfl)]; exact hx)
    show if decide (V.int ((h : Nat) : Int) = V.int 0) = true then _ else _
    rw [dec_int, show (((h : Nat) : Int) == 0) = false from by rw [beq_eq_false_iff_ne]; omega]
    refine iteF ?_
    refine ⟨_, rfl, _, rfl, a, p, rfl, hp, _, rfl, ?_⟩
    cases em : isEmpty p with
    | true =>
      refine iteT ?_
      refine ⟨(by show 0 ≤ sizeLine; decide), fun l hl0 => ?_⟩
      have s2 : Same H (upd H l (.lst [])) := same_new hl0 _
      exact mk_chain (ps := []) ⟨[], upd_same, by simp [PatsAt]⟩ fun x H2 s3 hx => k x H2 (s2.trans s3) (by rw [times', if_pos (.inr em)]; exact hx)
    | false =>
      refine iteF ?_
      have ne : ¬ (some h = some 0 ∨ isEmpty p = true) := by
        rw [em]
        rintro (z | z)
        · exact h0 (Option.some.inj z)
        · cases z
      refine ⟨_, rfl, rfl, _, rfl, ?_⟩
      show if decide (V.int ((lo : Nat) : Int) = V.int 1) = true then _ else _
      by_cases l1 : lo = 1
      · subst l1
        refine iteT ?_
        refine ⟨_, rfl, rfl, _, rfl, ?_⟩
        show if decide (V.int ((h : Nat) : Int) = V.int 1) = true then _ else _
        by_cases h1 : h = 1
        · subst h1
          refine iteT ?_
          exact ⟨_, rfl, k _ _ (Same.refl H) (by rw [times', if_neg ne, if_pos ⟨rfl, rfl⟩]; exact hp)⟩
        · have ek : times' p 1 (some h) = .times p 1 (some h) := by
            rw [times', if_neg ne, if_neg (by rintro ⟨_, z⟩; exact h1 (Option.some.inj z))]
          rw [dec_int, show (((h : Nat) : Int) == 1) = false from by rw [beq_eq_false_iff_ne]; omega]
          refine iteF ?_
          exact ⟨_, rfl, _, rfl, _, rfl, mk_times (lo := 1) (hi := some h) hp fun x H2 s2 hx => k x H2 s2 (by rw [ek]; exact hx)⟩
      · have ek : times' p lo (some h) = .times p lo (some h) := by
          rw [times', if_neg ne, if_neg (by rintro ⟨z, _⟩; exact l1 z)]
        rw [dec_int, show (((lo : Nat) : Int) == 1) = false from by rw [beq_eq_false_iff_ne]; omega]
        refine iteF ?_
        refine iteF ?_
        exact ⟨_, rfl, _, rfl, _, rfl, mk_times (lo := lo) (hi := some h) hp fun x H2 s2 hx => k x H2 s2 (by rw [ek]; exact hx)⟩
theorem ok_times3 (T : Tx K mg N) : Cal P w K mg base 3 "times" (spTimes N) [] := by
  obtain ⟨f, fd, F, m⟩ := T.d_times
  obtain ⟨ds, hv, hb⟩ := F.binds1 (ps := ["part", "low", "high"]) 3 2 (by simp) rfl (fun T kV doc pm an cdv ct us its h1 h2 => match us, its, h1, h2 with | [_, _, _], [_, _], _, _ => ⟨_, rfl, rfl⟩)
  exact ⟨f, fd, _, ds, body_times T F, m, F.kp, hb, hv⟩
theorem ok_times2 (T : Tx K mg N) : Cal P w K mg base 3 "times" (spTimes N) [.non] := by
  obtain ⟨f, fd, F, m⟩ := T.d_times
  obtain ⟨ds, hv, hb⟩ := F.binds1 (ps := ["part", "low", "high"]) 2 1 (by simp) rfl (fun T kV doc pm an cdv ct us its h1 h2 => match us, its, h1, h2 with | [_, _], [_, _], _, _ => ⟨_, rfl, rfl⟩)
  exact ⟨f, fd, _, ds, body_times T F, m, F.kp, hb, hv⟩
end
end KG
end
section
set_option Elab.async false
set_option linter.all false
set_option autoImplicit false
set_option maxRecDepth 100000
set_option maxHeartbeats 4000000
/-! ## pattern_of, bare -/
namespace KG
open PySem PySem.Spec PyProof.Rows L2 KM
open C8 (Cal Met Mak pe_c pe_mk pe_mt pe_mt0)
theorem mk_id {ps : List Pat} (h : Cn (.chain ps)) : chain' ps = .chain ps := by
  have h1 := mk_parts h
  have h2 : fl ps = ps := fl_of_nc (parts_nc h)
  unfold chain'
  rw [h2]
  exact h1
theorem mkm_id {ps : List Pat} (h : Cn (.mixed ps)) : mixed' ps = .mixed ps := by
  have h1 := mkm_mparts h
  have h2 : flm ps = ps := flm_of_nm (mparts_nm h)
  unfold mixed'
  rw [h2]
  exact h1
theorem mko_id {ps : List Pat} (h : Cn (.choice ps)) : choice' ps = .choice ps := by
  rw [Cn] at h
  obtain ⟨h1, h2, h3⟩ := h
  have e : flo ps = ps := by
    have : ∀ qs : List Pat, (∀ q ∈ qs, isChoice q = false) → flo qs = qs := fun qs hq => by
      induction qs with
      | nil => rfl
      | cons q qs ih =>
        show oparts q ++ flo qs = _
        rw [ih fun r hr => hq r (List.mem_cons_of_mem _ hr)]
        have := hq q List.mem_cons_self
        cases q <;> first | rfl | cases this
    exact this ps fun q hq => (h3 q hq).2
  unfold choice'
  rw [e, once_id ps h2]
  match ps, h1 with
  | p :: q :: ps, _ => rfl
theorem mkt_id {p : Pat} {lo : Nat} {hi : Option Nat} (h : Cn (.times p lo hi)) : times' p lo hi = .times p lo hi := by
  rw [Cn] at h
  obtain ⟨h1, h2, h3, h4, h5⟩ := h
  rw [times', if_neg (by rw [h2]; rintro (z | z); exact h4 z; cases z), if_neg h5]
/-- the items are patterns -/
theorem acc_pats {N : Nm} {H : Hp} : ∀ {ps : List Pat} {acc : List V}, acc.length = ps.length → (∀ j, j < ps.length → ∃ y, acc[j]? = some y ∧ ∃ p a, ps[j]? = some p ∧ y = .ref a ∧ PatAt N H p a) → ∃ as : List Addr, acc = as.map V.ref ∧ PatsAt N H ps as
  | [], [], _, _ => ⟨[], rfl, by simp [PatsAt]⟩
  | [], _ :: _, h, _ => by simp at h
  | _ :: _, [], h, _ => by simp at h
  | p :: ps, y :: acc, h, k => by
    obtain ⟨as, e, hs⟩ := acc_pats (ps := ps) (acc := acc) (by simpa using h) fun j hj => k (j + 1) (by rw [List.length_cons]; omega)
    obtain ⟨y', h1, q, a, h2, h3, h4⟩ := k 0 (by rw [List.length_cons]; omega)
    cases h1
    cases h2
    subst h3
    refine ⟨a :: as, by rw [e]; rfl, ?_⟩
    rw [PatsAt]
    exact ⟨h4, hs⟩
section
variable {P : Program} {w : World} {K : PySem.W.Frag} {mg : Str → Option Value} {base : Heap} {N : Nm}
/-! ### pattern_of -/
def spPof (N : Nm) (n : Nat) : Sp := sp1 fun v H Q => ∃ p, DAt H (toldD p) v ∧ Sm p ∧ dp p ≤ n ∧ ∀ a H', Same H H' → PatAt N H' p a → Q (.ref a) H'
theorem scPatternOf : FnScope ["told", "parts", "part"] ["told"] (defScope sPatternOf) := ⟨rfl, rfl, rfl, by decide +kernel, rfl, by decide +kernel, by decide +kernel⟩
theorem kd_chain {H : Hp} {ps : List Pat} : decide (V.str (Str.ofString "chain") = V.str (Str.ofString "chain")) = true ∧ decide (V.str (Str.ofString "choice") = V.str (Str.ofString "chain")) = false ∧ decide (V.str (Str.ofString "mixed") = V.str (Str.ofString "chain")) = false ∧ decide (V.str (Str.ofString "choice") = V.str (Str.ofString "choice")) = true ∧ decide (V.str (Str.ofString "mixed") = V.str (Str.ofString "choice")) = false := by
  refine ⟨?_, ?_, ?_, ?_, ?_⟩ <;> decide +kernel
theorem ok_pattern_of (T : Tx K mg N) : ∀ n : Nat, Cal P w K mg base (2 * n + 4) "pattern_of" (spPof N n) []
  | 0 => by
    obtain ⟨f, fd, F, m⟩ := T.d_pattern_of.ex
    have no : ∀ vs H Q E, ¬ spPof N 0 vs H Q E := fun vs H Q E ⟨_, _, p, _, _, h, _⟩ => by
      have := dp_pos p
      omega
    exact ⟨f, fd, ["told"], [], ⟨fun vs H Q E h => absurd h (no vs H Q E), fun A outer s H args us vs Q E _ _ _ _ h => absurd h (no vs H Q E)⟩, m, F.kp, F.bindsN (fun _ _ _ _ _ _ us hl => match us, hl with | [_], _ => rfl), .nil⟩
  | n + 1 => by
    have ih := ok_pattern_of T n
    refine T.d_pattern_of.cal scPatternOf (fun _ _ _ _ _ _ us hl => match us, hl with | [_], _ => rfl) len1 (fun f cdv A outer s H vs Q E hr h => ?_)
    obtain ⟨v, rfl, p, hp, hs, hd, k⟩ := h
    have t0 := fun (i : Nat) => True.intro
    refine ⟨_, pss_cons (ps_if (pt_cmpR op_eq (pe_ix ix_tup (pv 0) pe_int (fun _ _ => rfl)) pe_str (nomark _)) (pss_one (ps_ret (pe_c (ok_one T) hr (by omega) rfl (pa_cons (pe_ix ix_tup (pv 0) pe_int (fun _ _ => rfl)) pa_nil)))) pss_nil)
      (pss_cons (ps_if (pt_cmpR op_eq (pe_ix ix_tup (pv 0) pe_int (fun _ _ => rfl)) pe_str (nomark _))
        (pss_cons (ps_if (pt_cmpR op_lt (pe_ix ix_tup (pv 0) pe_int (fun _ _ => rfl)) pe_int (nomark _))
          (pss_one (ps_ret (pe_c (ok_times2 T) hr (by omega) rfl (pa_cons (pe_c ih hr (by omega) rfl (pa_cons (pe_ix ix_tup (pv 0) pe_int (fun _ _ => rfl)) pa_nil)) (pa_cons (pe_ix ix_tup (pv 0) pe_int (fun _ _ => rfl)) pa_nil))))) pss_nil)
          (pss_one (ps_ret (pe_c (ok_times3 T) hr (by omega) rfl (pa_cons (pe_c ih hr (by omega) rfl (pa_cons (pe_ix ix_tup (pv 0) pe_int (fun _ _ => rfl)) pa_nil)) (pa_cons (pe_ix ix_tup (pv 0) pe_int (fun _ _ => rfl)) (pa_cons (pe_ix ix_tup (pv 0) pe_int (fun _ _ => rfl)) pa_nil))))))) pss_nil)
      (pss_cons (ps_setLc (i := 1) (own := [("part", 2)]) (g := gName 2) (tt := tYes) rfl scPatternOf.nd rfl rfl (sw_true rfl rfl rfl (by decide +kernel)) (pi_tup (pe_ix ix_tup (pv 0) pe_int (fun _ _ => rfl))) (blkOk_by (N := ["told", "parts", "part"]) (sc := defScope sPatternOf) (by decide +kernel))
          (fun _ _ _ _ _ => pg_name (i := 2) scPatternOf.nd rfl (Or.inl rfl)) (fun _ _ _ _ _ => pts_nil) (fun _ _ _ _ _ => pe_c ih hr (by omega) rfl (pa_cons (pv 2) pa_nil)))
      (pss_cons (ps_if (pt_cmpR op_eq (pe_ix ix_tup (pv 0) pe_int (fun _ _ => rfl)) pe_str (nomark _)) (pss_one (ps_ret (pe_c (ok_chain T) hr (by omega) rfl (pa_cons (pv 1) pa_nil)))) pss_nil)
      (pss_cons (ps_if (pt_cmpR op_eq (pe_ix ix_tup (pv 0) pe_int (fun _ _ => rfl)) pe_str (nomark _)) (pss_one (ps_ret (pe_c (ok_choice T n) hr (by omega) rfl (pa_cons (pv 1) pa_nil)))) pss_nil)
      (pss_one (ps_ret (pe_c (ok_mixed T) hr (by omega) rfl (pa_cons (pv 1) pa_nil)))))))), ?_⟩
    obtain ⟨a, vs, rfl, ha, hv⟩ := told_at hp
    refine ⟨_, rfl, a, _, _, _, rfl, rfl, SqT.of ha, at0, rfl, _, rfl, ?_⟩
    rcases kind3 p with ⟨x, e⟩ | ⟨p, lo, hi, e⟩ | ⟨ps, e⟩
    · subst e
      show if decide (V.str (Str.ofString "one") = V.str (Str.ofString "one")) = true then _ else _
      rw [kw_11]
      refine iteT ?_
      obtain ⟨y, e1, e2⟩ := dats1 hv
      subst e1
      rw [DAt] at e2
      subst e2
      exact ⟨_, rfl, a, _, _, _, rfl, rfl, SqT.of ha, at1, _, rfl, x, rfl, k⟩
    · subst e
      show if decide (V.str (Str.ofString "times") = V.str (Str.ofString "one")) = true then _ else _
      rw [kw_t1]
      refine iteF ?_
      refine ⟨_, rfl, a, _, _, _, rfl, rfl, SqT.of ha, at0, rfl, _, rfl, ?_⟩
      show if decide (V.str (Str.ofString "times") = V.str (Str.ofString "times")) = true then _ else _
      rw [kw_tt]
      refine iteT ?_
      obtain ⟨s1, s2, s3⟩ := sm_times hs
      obtain ⟨x, y, z, e1, e2, e3, e4⟩ := dats3 hv
      subst e1
      rw [DAt] at e3 e4
      subst e3 e4
      have ek := mkt_id hs.1
      refine ⟨_, rfl, a, _, _, _, rfl, rfl, SqT.of ha, at3, _, _, rfl, rfl, _, rfl, ?_⟩
      cases hi with
      | none =>
        refine iteT ?_
        refine ⟨_, rfl, a, _, _, _, rfl, rfl, SqT.of ha, at1, _, rfl, p, e2, s1, by omega, fun b H' sm hb => ?_⟩
        exact ⟨_, rfl, a, _, _, _, rfl, rfl, SqT.of (sm _ _ ha), at2, _, _, _, rfl, b, p, lo, none, rfl, rfl, rfl, hb, s3, fun c H2 sm2 hc => k c H2 (sm.trans sm2) (by rw [ek] at hc; exact hc)⟩
      | some h =>
        show if decide (((h : Nat) : Int) < 0) = true then _ else _
        rw [show decide (((h : Nat) : Int) < 0) = false from decide_eq_false (by omega)]
        refine iteF ?_
        refine ⟨_, rfl, a, _, _, _, rfl, rfl, SqT.of ha, at1, _, rfl, p, e2, s1, by omega, fun b H' sm hb => ?_⟩
        refine ⟨_, rfl, a, _, _, _, rfl, rfl, SqT.of (sm _ _ ha), at2, ?_⟩
        exact ⟨_, rfl, a, _, _, _, rfl, rfl, SqT.of (sm _ _ ha), at3, _, _, _, rfl, b, p, lo, some h, rfl, rfl, rfl, hb, s3, fun c H2 sm2 hc => k c H2 (sm.trans sm2) (by rw [ek] at hc; exact hc)⟩
    · obtain ⟨w1, w2, w3, w4, w5⟩ := kw_3 e
      obtain ⟨s1, s2, s3, s4⟩ := sm_parts hs e
      rw [w1]
      refine iteF ?_
      refine ⟨_, rfl, a, _, _, _, rfl, rfl, SqT.of ha, at0, rfl, _, rfl, ?_⟩
      rw [w2]
      refine iteF ?_
      rw [w3] at hv
      obtain ⟨y, e1, e2⟩ := dats1 hv
      subst e1
      rw [DAt] at e2
      obtain ⟨t, us, rfl, ht, hus⟩ := e2
      have hul := dats_len hus
      rw [toldDs_map, List.length_map] at hul
      refine ⟨_, rfl, a, _, _, _, rfl, rfl, SqT.of ha, at1, t, rfl, ⟨_, SqT.of ht⟩, fun D hD => ?_⟩
      refine rd_lc walk_tup yat_eq hD (by omega) (fun j y H' => ∃ q b, ps[j]? = some q ∧ y = .ref b ∧ PatAt N H' q b) (fun j y H1 H2 z ⟨q, b, h1, h2, h3⟩ => ⟨q, b, h1, h2, h3.fz z⟩) (fun H' s' => SqT.of (s' _ _ ht)) (fun j x H' C hj y s' k' => ?_) (fun H' acc s' hacc hl2 hf => ?_)
      · have hjp : j < ps.length := by omega
        have e5 : (toldDs ps)[j]? = some (toldD ps[j]) := by rw [toldDs_map, List.getElem?_map, List.getElem?_eq_getElem hjp]; rfl
        obtain ⟨v, f1, f2⟩ := dats_get hus e5
        have f3 : x = v := by
          have := y.2
          rw [f1] at this
          exact (Option.some.inj this).symm
        subst f3
        have hm : ps[j] ∈ ps := List.getElem_mem hjp
        refine ⟨_, rfl, _, rfl, ps[j], f2.fz (fz_same s'), s1 _ hm, ?_, fun b H4 s4 hb => k' _ H4 s4 ⟨ps[j], b, List.getElem?_eq_getElem hjp, rfl, hb⟩⟩
        have := dps_mem hm
        omega
      · rw [hul] at hl2
        obtain ⟨as, ea, has⟩ := acc_pats hl2 fun j hj => hf j (by omega)
        subst ea
        have hL : LstAt N H' ps D := ⟨as, hacc, has⟩
        refine ⟨_, rfl, a, _, _, _, rfl, rfl, SqT.of (s' _ _ ha), at0, rfl, _, rfl, ?_⟩
        obtain ⟨k1, k2, k3, k4, k5⟩ := kd_chain (H := H) (ps := ps)
        rcases e with e | e | e <;> subst e
        · show if decide (V.str (Str.ofString "chain") = V.str (Str.ofString "chain")) = true then _ else _
          rw [k1]
          refine iteT ?_
          exact ⟨_, rfl, _, rfl, D, ps, rfl, hL, by omega, fun c H2 sm2 hc => k c H2 (s'.trans sm2) (by rw [mk_id hs.1] at hc; exact hc)⟩
        · show if decide (V.str (Str.ofString "choice") = V.str (Str.ofString "chain")) = true then _ else _
          rw [k2]
          refine iteF ?_
          refine ⟨_, rfl, a, _, _, _, rfl, rfl, SqT.of (s' _ _ ha), at0, rfl, _, rfl, ?_⟩
          show if decide (V.str (Str.ofString "choice") = V.str (Str.ofString "choice")) = true then _ else _
          rw [k4]
          refine iteT ?_
          exact ⟨_, rfl, _, rfl, D, ps, rfl, hL, s1, by omega, by omega, fun c H2 sm2 hc => k c H2 (s'.trans sm2) (by rw [mko_id hs.1] at hc; exact hc)⟩
        · show if decide (V.str (Str.ofString "mixed") = V.str (Str.ofString "chain")) = true then _ else _
          rw [k3]
          refine iteF ?_
          refine ⟨_, rfl, a, _, _, _, rfl, rfl, SqT.of (s' _ _ ha), at0, rfl, _, rfl, ?_⟩
          show if decide (V.str (Str.ofString "mixed") = V.str (Str.ofString "choice")) = true then _ else _
          rw [k5]
          refine iteF ?_
          exact ⟨_, rfl, _, rfl, D, ps, rfl, hL, by omega, fun c H2 sm2 hc => k c H2 (s'.trans sm2) (by rw [mkm_id hs.1] at hc; exact hc)⟩
/-! ### bare -/
def spBare (N : Nm) (n : Nat) (k : Kd) : Sp := sp1 fun v H Q => ∃ a p, v = .ref a ∧ kdOf p = k ∧ PatAt N H p a ∧ dp p ≤ n ∧ sz p ≤ 1000 ∧ ∀ H', Same H H' → Q (.bl (bare p)) H'
theorem bareAll_map (ps : List Pat) : (ps.map bare).all id = bareAll ps := by
  induction ps with
  | nil => rw [bareAll]; rfl
  | cons p ps ih => rw [bareAll, ← ih]; rfl
theorem bareAny_map (ps : List Pat) : (ps.map bare).any id = bareAny ps := by
  induction ps with
  | nil => rw [bareAny]; rfl
  | cons p ps ih => rw [bareAny, ← ih]; rfl
end
end KG
end
section
set_option Elab.async false
set_option linter.all false
set_option autoImplicit false
set_option maxRecDepth 100000
set_option maxHeartbeats 4000000
/-! ## bare -/
namespace KG
open PySem PySem.Spec PyProof.Rows L2 KM
open C8 (Cal Met Mak pe_c pe_mk pe_mt pe_mt0)
section
variable {P : Program} {w : World} {K : PySem.W.Frag} {mg : Str → Option Value} {base : Heap} {N : Nm}
theorem scOneBare : FnScope ["self"] ["self"] (defScope sOneBare) := ⟨rfl, rfl, rfl, by decide +kernel, rfl, by decide +kernel, by decide +kernel⟩
theorem ok_OneBare {n j : Nat} (T : Tx K mg N) : Met P w K mg base (j + 1) (N.c .one) "bare" (spBare N n .one) [] := by
  refine T.m_One_bare.met scOneBare (fun _ _ _ _ _ _ us hl => match us, hl with | [_], _ => rfl) len1 (fun f cdv A outer s H vs Q E hr h => ?_)
  obtain ⟨_, rfl, a, p, rfl, hk, hp, hd, hz, k⟩ := h
  cases p with
  | one x => exact ⟨_, pss_one (ps_ret pe_bl), k H (Same.refl H)⟩
  | _ => cases hk
theorem list_parts {p : Pat} {ps : List Pat} (e : p = .chain ps ∨ p = .choice ps ∨ p = .mixed ps) (hz : sz p ≤ 1000) : ps.length ≤ 1000 ∧ szs ps ≤ 1000 ∧ (∀ q ∈ ps, sz q ≤ 1000) ∧ dps ps + 1 = dp p := by
  have key : szs ps ≤ 1000 → ps.length ≤ 1000 ∧ szs ps ≤ 1000 ∧ (∀ q ∈ ps, sz q ≤ 1000) := fun h => ⟨by have := szs_len ps; omega, h, fun q hq => by have := szs_mem hq; omega⟩
  rcases e with e | e | e
  · subst e
    rw [sz] at hz
    obtain ⟨a, b, c⟩ := key (by omega)
    exact ⟨a, b, c, by rw [dp]⟩
  · subst e
    rw [sz] at hz
    obtain ⟨a, b, c⟩ := key (by omega)
    exact ⟨a, b, c, by rw [dp]⟩
  · subst e
    rw [sz] at hz
    obtain ⟨a, b, c⟩ := key (by omega)
    exact ⟨a, b, c, by rw [dp]⟩
theorem scChainBare : FnScope ["self", "part"] ["self"] (defScope sChainBare) := ⟨rfl, rfl, rfl, by decide +kernel, rfl, by decide +kernel, by decide +kernel⟩
theorem ok_ChainBare {n j : Nat} (T : Tx K mg N) (M : ∀ k, Met P w K mg base j (N.c k) "bare" (spBare N n k) []) : Met P w K mg base (j + 1) (N.c .chain) "bare" (spBare N (n + 1) .chain) [] := by
  refine T.m_Chain_bare.met scChainBare (fun _ _ _ _ _ _ us hl => match us, hl with | [_], _ => rfl) len1 (fun f cdv A outer s H vs Q E hr h => ?_)
  obtain ⟨_, rfl, a, p, rfl, hk, hp, hd, hz, k⟩ := h
  cases p with
  | chain ps =>
    obtain ⟨s1, s2, s3, s4⟩ := list_parts (.inl rfl) hz
    rw [PatAt] at hp
    obtain ⟨dx, t, bs, ea, et, hps⟩ := hp
    refine ⟨_, pss_one (ps_ret (pe_callB (cr_all rfl) (by rfl) T.z_all (by decide +kernel) (pa_cons (pe_lc (own := [("part", 1)]) (g := gName 1) (tt := tYes) rfl scChainBare.nd (pi_tup (pe_fld (pv 0) rfl)) (blkOk_by (N := ["self", "part"]) (sc := defScope sChainBare) (by decide +kernel))
      (fun _ _ _ _ _ => pg_name (i := 1) scChainBare.nd rfl (Or.inl rfl)) (fun _ _ _ _ _ => pts_nil) (fun _ _ _ _ _ => KR.pe_meth0D (pv 1) (fun i => met_md (M i)) hr (Nat.le_refl _))) pa_nil))), ?_⟩
    have hln := pats_len hps
    refine ⟨_, rfl, a, _, dx, _, _, rfl, ea, T.cl_Chain, T.na_Chain_parts, look0, t, rfl, ⟨_, SqT.of et⟩, fun D hD => rd_lc walk_tup yat_eq hD (by rw [List.length_map]; omega) (fun j y H' => ∃ p, ps[j]? = some p ∧ y = .bl (bare p)) (fun j y H1 H2 z q => q)
      (fun H' s' => SqT.of (s' _ _ et)) (fun j x H' C hj y s' k' => ?_) (fun H' acc s' hacc hl2 hf => ?_)⟩
    · rw [List.length_map] at hj
      obtain ⟨b, q, e1, e2, e3, e4⟩ := pats_at hps hj y.2
      subst e1
      have e5 := e4.fz (fz_same s')
      have hm : q ∈ ps := List.mem_of_getElem? e3
      obtain ⟨dx, fs, i1, i2, i3, _⟩ := pat_ins e5
      refine ⟨_, rfl, kdOf q, b, dx, fs, rfl, i1, i3, _, rfl, b, q, rfl, rfl, e5, ?_, s3 q hm, fun H4 s5 => k' _ H4 s5 ⟨q, e3, rfl⟩⟩
      have := dps_mem hm
      omega
    · rw [List.length_map] at hl2 hf
      have e6 : acc = (ps.map bare).map V.bl := by
        rw [List.map_map]
        exact acc_map (f := V.bl ∘ bare) hln hl2 hf
      refine ⟨D, ps.map bare, rfl, SqL.of (by rw [← e6]; exact hacc), ?_⟩
      rw [bareAll_map]
      have q := k H' s'
      rw [bare] at q
      exact q
  | _ => cases hk
theorem scChoiceBare : FnScope ["self", "part"] ["self"] (defScope sChoiceBare) := ⟨rfl, rfl, rfl, by decide +kernel, rfl, by decide +kernel, by decide +kernel⟩
theorem ok_ChoiceBare {n j : Nat} (T : Tx K mg N) (M : ∀ k, Met P w K mg base j (N.c k) "bare" (spBare N n k) []) : Met P w K mg base (j + 1) (N.c .choice) "bare" (spBare N (n + 1) .choice) [] := by
  refine T.m_Choice_bare.met scChoiceBare (fun _ _ _ _ _ _ us hl => match us, hl with | [_], _ => rfl) len1 (fun f cdv A outer s H vs Q E hr h => ?_)
  obtain ⟨_, rfl, a, p, rfl, hk, hp, hd, hz, k⟩ := h
  cases p with
  | choice ps =>
    obtain ⟨s1, s2, s3, s4⟩ := list_parts (.inr (.inl rfl)) hz
    rw [PatAt] at hp
    obtain ⟨dx, t, bs, ea, et, hps⟩ := hp
    refine ⟨_, pss_one (ps_ret (pe_callB (cr_any rfl) (by rfl) T.z_any (by decide +kernel) (pa_cons (pe_lc (own := [("part", 1)]) (g := gName 1) (tt := tYes) rfl scChoiceBare.nd (pi_tup (pe_fld (pv 0) rfl)) (blkOk_by (N := ["self", "part"]) (sc := defScope sChoiceBare) (by decide +kernel))
      (fun _ _ _ _ _ => pg_name (i := 1) scChoiceBare.nd rfl (Or.inl rfl)) (fun _ _ _ _ _ => pts_nil) (fun _ _ _ _ _ => KR.pe_meth0D (pv 1) (fun i => met_md (M i)) hr (Nat.le_refl _))) pa_nil))), ?_⟩
    have hln := pats_len hps
    refine ⟨_, rfl, a, _, dx, _, _, rfl, ea, T.cl_Choice, T.na_Choice_parts, look0, t, rfl, ⟨_, SqT.of et⟩, fun D hD => rd_lc walk_tup yat_eq hD (by rw [List.length_map]; omega) (fun j y H' => ∃ p, ps[j]? = some p ∧ y = .bl (bare p)) (fun j y H1 H2 z q => q)
      (fun H' s' => SqT.of (s' _ _ et)) (fun j x H' C hj y s' k' => ?_) (fun H' acc s' hacc hl2 hf => ?_)⟩
    · rw [List.length_map] at hj
      obtain ⟨b, q, e1, e2, e3, e4⟩ := pats_at hps hj y.2
      subst e1
      have e5 := e4.fz (fz_same s')
      have hm : q ∈ ps := List.mem_of_getElem? e3
      obtain ⟨dx, fs, i1, i2, i3, _⟩ := pat_ins e5
      refine ⟨_, rfl, kdOf q, b, dx, fs, rfl, i1, i3, _, rfl, b, q, rfl, rfl, e5, ?_, s3 q hm, fun H4 s5 => k' _ H4 s5 ⟨q, e3, rfl⟩⟩
      have := dps_mem hm
      omega
    · rw [List.length_map] at hl2 hf
      have e6 : acc = (ps.map bare).map V.bl := by
        rw [List.map_map]
        exact acc_map (f := V.bl ∘ bare) hln hl2 hf
      refine ⟨D, ps.map bare, rfl, SqL.of (by rw [← e6]; exact hacc), ?_⟩
      rw [bareAny_map]
      have q := k H' s'
      rw [bare] at q
      exact q
  | _ => cases hk
theorem scMixedBare : FnScope ["self", "part"] ["self"] (defScope sMixedBare) := ⟨rfl, rfl, rfl, by decide +kernel, rfl, by decide +kernel, by decide +kernel⟩
theorem ok_MixedBare {n j : Nat} (T : Tx K mg N) (M : ∀ k, Met P w K mg base j (N.c k) "bare" (spBare N n k) []) : Met P w K mg base (j + 1) (N.c .mixed) "bare" (spBare N (n + 1) .mixed) [] := by
  refine T.m_Mixed_bare.met scMixedBare (fun _ _ _ _ _ _ us hl => match us, hl with | [_], _ => rfl) len1 (fun f cdv A outer s H vs Q E hr h => ?_)
  obtain ⟨_, rfl, a, p, rfl, hk, hp, hd, hz, k⟩ := h
  cases p with
  | mixed ps =>
    obtain ⟨s1, s2, s3, s4⟩ := list_parts (.inr (.inr rfl)) hz
    rw [PatAt] at hp
    obtain ⟨dx, t, bs, ea, et, hps⟩ := hp
    refine ⟨_, pss_one (ps_ret (pe_callB (cr_all rfl) (by rfl) T.z_all (by decide +kernel) (pa_cons (pe_lc (own := [("part", 1)]) (g := gName 1) (tt := tYes) rfl scMixedBare.nd (pi_tup (pe_fld (pv 0) rfl)) (blkOk_by (N := ["self", "part"]) (sc := defScope sMixedBare) (by decide +kernel))
      (fun _ _ _ _ _ => pg_name (i := 1) scMixedBare.nd rfl (Or.inl rfl)) (fun _ _ _ _ _ => pts_nil) (fun _ _ _ _ _ => KR.pe_meth0D (pv 1) (fun i => met_md (M i)) hr (Nat.le_refl _))) pa_nil))), ?_⟩
    have hln := pats_len hps
    refine ⟨_, rfl, a, _, dx, _, _, rfl, ea, T.cl_Mixed, T.na_Mixed_parts, look0, t, rfl, ⟨_, SqT.of et⟩, fun D hD => rd_lc walk_tup yat_eq hD (by rw [List.length_map]; omega) (fun j y H' => ∃ p, ps[j]? = some p ∧ y = .bl (bare p)) (fun j y H1 H2 z q => q)
      (fun H' s' => SqT.of (s' _ _ et)) (fun j x H' C hj y s' k' => ?_) (fun H' acc s' hacc hl2 hf => ?_)⟩
    · rw [List.length_map] at hj
      obtain ⟨b, q, e1, e2, e3, e4⟩ := pats_at hps hj y.2
      subst e1
      have e5 := e4.fz (fz_same s')
      have hm : q ∈ ps := List.mem_of_getElem? e3
      obtain ⟨dx, fs, i1, i2, i3, _⟩ := pat_ins e5
      refine ⟨_, rfl, kdOf q, b, dx, fs, rfl, i1, i3, _, rfl, b, q, rfl, rfl, e5, ?_, s3 q hm, fun H4 s5 => k' _ H4 s5 ⟨q, e3, rfl⟩⟩
      have := dps_mem hm
      omega
    · rw [List.length_map] at hl2 hf
      have e6 : acc = (ps.map bare).map V.bl := by
        rw [List.map_map]
        exact acc_map (f := V.bl ∘ bare) hln hl2 hf
      refine ⟨D, ps.map bare, rfl, SqL.of (by rw [← e6]; exact hacc), ?_⟩
      rw [bareAll_map]
      have q := k H' s'
      rw [bare] at q
      exact q
  | _ => cases hk
theorem scTimesBare : FnScope ["self"] ["self"] (defScope sTimesBare) := ⟨rfl, rfl, rfl, by decide +kernel, rfl, by decide +kernel, by decide +kernel⟩
theorem ok_TimesBare {n j : Nat} (T : Tx K mg N) (M : ∀ k, Met P w K mg base j (N.c k) "bare" (spBare N n k) []) : Met P w K mg base (j + 1) (N.c .times) "bare" (spBare N (n + 1) .times) [] := by
  refine T.m_Times_bare.met scTimesBare (fun _ _ _ _ _ _ us hl => match us, hl with | [_], _ => rfl) len1 (fun f cdv A outer s H vs Q E hr h => ?_)
  obtain ⟨_, rfl, a, p, rfl, hk, hp, hd, hz, k⟩ := h
  cases p with
  | times p lo hi =>
    rw [sz] at hz
    rw [dp] at hd
    rw [PatAt] at hp
    obtain ⟨dx, b, ea, hb⟩ := hp
    obtain ⟨dx2, fs2, i1, i2, i3, _⟩ := pat_ins hb
    refine ⟨_, pss_one (ps_ret (pe_or (pe_cmpR op_eq (pe_fld (pv 0) rfl) pe_int (nomark _)) (pe_one (KR.pe_meth0D (pe_fld (pv 0) rfl) (fun i => met_md (M i)) hr (Nat.le_refl _))))), ?_⟩
    refine ⟨_, rfl, a, _, dx, _, _, rfl, ea, T.cl_Times, T.na_Times_low, fsT_low, rfl, _, rfl, ?_⟩
    have q := k
    rw [bare] at q
    show if decide (V.int ((lo : Nat) : Int) = V.int 0) = true then _ else _
    cases lo with
    | zero => exact iteT (q H (Same.refl H))
    | succ l =>
      rw [dec_int, show ((((l + 1 : Nat) : Int)) == 0) = false from by rw [beq_eq_false_iff_ne]; omega]
      refine iteF ?_
      exact ⟨_, rfl, a, _, dx, _, _, rfl, ea, T.cl_Times, T.na_Times_part, fsT_part, kdOf p, b, dx2, fs2, rfl, i1, i3, _, rfl, b, p, rfl, rfl, hb, by omega, by omega, fun H4 s4 => q H4 s4⟩
  | _ => cases hk
theorem bare_no {k : Kd} : ∀ vs H Q E, ¬ spBare N 0 k vs H Q E := fun vs H Q E ⟨_, _, _, p, _, _, _, h, _⟩ => by
  have := dp_pos p
  omega
theorem ok_bare (T : Tx K mg N) : ∀ (n : Nat) (k : Kd), Met P w K mg base n (N.c k) "bare" (spBare N n k) []
  | 0, .one => T.m_One_bare.void (ps := ["self"]) (fun _ _ _ _ _ _ us hl => match us, hl with | [_], _ => rfl) bare_no
  | 0, .chain => T.m_Chain_bare.void (ps := ["self"]) (fun _ _ _ _ _ _ us hl => match us, hl with | [_], _ => rfl) bare_no
  | 0, .choice => T.m_Choice_bare.void (ps := ["self"]) (fun _ _ _ _ _ _ us hl => match us, hl with | [_], _ => rfl) bare_no
  | 0, .times => T.m_Times_bare.void (ps := ["self"]) (fun _ _ _ _ _ _ us hl => match us, hl with | [_], _ => rfl) bare_no
  | 0, .mixed => T.m_Mixed_bare.void (ps := ["self"]) (fun _ _ _ _ _ _ us hl => match us, hl with | [_], _ => rfl) bare_no
  | n + 1, k => by
    have ih := ok_bare T n
    cases k with
    | one => exact ok_OneBare T
    | chain => exact ok_ChainBare T ih
    | choice => exact ok_ChoiceBare T ih
    | times => exact ok_TimesBare T ih
    | mixed => exact ok_MixedBare T ih
end
end KG
end
section
set_option Elab.async false
set_option linter.all false
set_option autoImplicit false
set_option maxRecDepth 100000
set_option maxHeartbeats 4000000
/-! ## left -/
namespace KG
open PySem PySem.Spec PyProof.Rows L2 KM
open C8 (Cal Met Mak pe_c pe_mk pe_mt pe_mt0)
/-! ### slices -/
theorem cut_from (xs : List V) (i : Nat) : cutV xs (some (i : Int)) none = xs.drop i := by
  unfold cutV
  rw [HT.sIx_nat, HT.sIx_none]
  by_cases h : i ≤ xs.length
  · rw [Nat.min_eq_left h, List.take_of_length_le (by rw [List.length_drop]; omega)]
  · rw [Nat.min_eq_right (by omega), List.drop_of_length_le (Nat.le_refl _), List.drop_of_length_le (by omega)]
    simp
theorem cut_to (xs : List V) (i : Nat) : cutV xs none (some (i : Int)) = xs.take i := by
  unfold cutV
  rw [HT.sIx_nat, HT.sIx_none, List.drop_zero, Nat.sub_zero]
  by_cases h : i ≤ xs.length
  · rw [Nat.min_eq_left h]
  · rw [Nat.min_eq_right (by omega), List.take_of_length_le (Nat.le_refl _), List.take_of_length_le (by omega)]
theorem cut_ne_from {xs : List V} {i : Nat} (h : i < xs.length) : ¬ (HT.sIx xs.length 0 (some ((i : Int) + 1)) = 0 ∧ HT.sIx xs.length xs.length none = xs.length) := by
  rintro ⟨z, _⟩
  rw [show ((i : Int) + 1) = ((i + 1 : Nat) : Int) from rfl, HT.sIx_nat] at z
  omega
theorem cut_ne_to {xs : List V} {i : Nat} (h : i < xs.length) : ¬ (HT.sIx xs.length 0 none = 0 ∧ HT.sIx xs.length xs.length (some (i : Int)) = xs.length) := by
  rintro ⟨_, z⟩
  rw [HT.sIx_nat] at z
  omega
/-! ### what is left is small -/
theorem left_sm {c : List Str} {q r : Pat} (hc : Cn q) (h1 : sD q ≤ 1000) (h : r ∈ left c q) : Sm r ∧ dp r ≤ dD q ∧ sz r ≤ sD q := by
  have hr := (closed q hc).2.2 q (closed q hc).1 c r h
  obtain ⟨a, b⟩ := (bnd q).2.2 r hr
  exact ⟨⟨(closed q hc).2.1 r hr, by omega⟩, b, a⟩
theorem dps_of {ps : List Pat} {n : Nat} (h : ∀ p ∈ ps, dp p ≤ n) : dps ps ≤ n := by
  induction ps with
  | nil => rw [dps]; omega
  | cons p ps ih =>
    rw [dps]
    have := h p List.mem_cons_self
    have := ih fun q hq => h q (List.mem_cons_of_mem _ hq)
    omega
theorem leftChain_len (c : List Str) : ∀ ps : List Pat, (leftChain c ps).length ≤ szs ps
  | [] => by rw [leftChain]; simp
  | p :: ps => by
    have h1 := left_len p c
    have h2 := leftChain_len c ps
    rw [leftChain, szs, List.length_append, List.length_map]
    split
    · omega
    · simp; omega
theorem leftMix_len (c : List Str) : ∀ (ps a : List Pat), (leftMix c a ps).length ≤ szs ps
  | [], a => by rw [leftMix]; simp
  | p :: ps, a => by
    have h1 := left_len p c
    have h2 := leftMix_len c ps (a ++ [p])
    rw [leftMix, szs, List.length_append, List.length_map]
    omega
theorem leftAll_len (c : List Str) : ∀ (ps : List Pat), (leftAll c ps).length ≤ szs ps
  | [] => by rw [leftAll]; simp
  | p :: ps => by
    have h1 := left_len p c
    have h2 := leftAll_len c ps
    rw [leftAll, szs, List.length_append]
    omega
def spLeft (N : Nm) (n m : Nat) (k : Kd) : Sp := sp2 fun v u H Q => ∃ (a : Addr) (q : Pat) (t : Addr) (fs : List Str), v = .ref a ∧ u = .ref t ∧ H t = some (.tup (fs.map V.str)) ∧ kdOf q = k ∧ PatAt N H q a ∧ Cn q ∧ sD q ≤ 1000 ∧ dD q ≤ n ∧ dp q ≤ m ∧
  ∀ l H', Same H H' → LstAt N H' (left fs q) l → Q (.ref l) H'
theorem all_flat (fs : List Str) : (fs.map V.str).all flatV = true := by
  induction fs with
  | nil => rfl
  | cons f fs ih => exact ih
theorem inV_str (x : Str) (fs : List Str) : inV (.str x) (fs.map V.str) = decide (x ∈ fs) := by
  induction fs with
  | nil => rfl
  | cons f fs ih =>
    show (eqV (.str f) (.str x) || inV (.str x) (fs.map V.str)) = _
    rw [ih]
    show ((f == x) || decide (x ∈ fs)) = _
    by_cases h : f = x
    · subst h; simp
    · rw [show (f == x) = false from by rw [beq_eq_false_iff_ne]; exact h, Bool.false_or]
      have : (x ∈ f :: fs) ↔ x ∈ fs := by
        rw [List.mem_cons]
        exact ⟨fun z => z.elim (fun e => absurd e.symm h) id, .inr⟩
      simp [this]
section
variable {P : Program} {w : World} {K : PySem.W.Frag} {mg : Str → Option Value} {base : Heap} {N : Nm}
theorem mk_at {H : Hp} {l : Addr} {ps : List Pat} {R : Addr → Hp → Prop} {E : XK} (hl : LstAt N H ps l) (k : ∀ x H', Same H H' → PatAt N H' (.chain ps) x → R x H') :
    ∀ x dx, H x = none → H dx = none → dx ≠ x → spI1 (N.c .chain) (.ref x :: ([.ref l] ++ [])) (upd (upd H dx (.own x)) x (.ins (N.c .chain) dx [])) (fun v H2 => v = .non ∧ R x H2) E := fun x dx h1 h2 h3
  => by
  obtain ⟨_, _, e, a, dx', l', xs, e1, e2, e3, e4, q⟩ := mk_chain (Q := fun v H2 => ∀ y, v = .ref y → R y H2) (E := E) hl (fun y H2 s hy z e => by cases e; exact k y H2 s hy) x dx h1 h2 h3
  exact ⟨_, _, e, a, dx', l', xs, e1, e2, e3, e4, fun t ht => ⟨(q t ht).1, (q t ht).2 x rfl⟩⟩
theorem scOneLeft : FnScope ["self", "forms"] ["self", "forms"] (defScope sOneLeft) := ⟨rfl, rfl, rfl, by decide +kernel, rfl, by decide +kernel, by decide +kernel⟩
theorem ok_OneLeft {n m j : Nat} (T : Tx K mg N) (hj : 3 ≤ j) : Met P w K mg base (j + 1) (N.c .one) "left" (spLeft N n m .one) [] := by
  refine T.m_One_left.met scOneLeft (fun _ _ _ _ _ _ us hl => match us, hl with | [_, _], _ => rfl) len2 (fun f cdv A outer s H vs Q E hr h => ?_)
  obtain ⟨_, _, rfl, a, p, t, fs, rfl, rfl, ht, hk, hp, hc, h1, h2, h3, k⟩ := h
  cases p with
  | one x =>
    rw [PatAt] at hp
    obtain ⟨dx, ea⟩ := hp
    refine ⟨_, pss_cons (ps_if (pt_cmpR op_in_seq (pe_fld (pv 0) rfl) (pv 1) (by rfl)) (pss_one (ps_ret (pe_lst (pa_cons (pe_mk (ok_ChainInit T) hr (by omega) rfl (pa_cons (pe_lst pa_nil) pa_nil)) pa_nil)))) pss_nil) (pss_one (ps_ret (pe_lst pa_nil))), ?_⟩
    refine ⟨_, rfl, a, _, dx, _, _, rfl, ea, T.cl_One, T.na_One_form, look0, _, rfl, t, _, rfl, .inr (SqT.of ht), rfl, all_flat fs, ?_⟩
    rw [inV_str]
    refine ⟨_, rfl, ?_⟩
    show if decide (x ∈ fs) = true then _ else _
    rw [left] at k
    by_cases hx : x ∈ fs
    · rw [if_pos hx] at k
      rw [decide_eq_true hx]
      refine iteT ?_
      refine ⟨(by show 0 ≤ sizeLine; decide), fun l hl0 => ?_⟩
      have s1 : Same H (upd H l (.lst [])) := same_new hl0 _
      refine mk_at (ps := []) ⟨[], upd_same, by simp [PatsAt]⟩ fun y H2 s2 hy => ?_
      refine ⟨(by show 1 ≤ sizeLine; decide), fun z hz0 => ?_⟩
      have s3 : Same H2 (upd H2 z (.lst [.ref y])) := same_new hz0 _
      exact k z _ (s1.trans (s2.trans s3)) ⟨[y], upd_same, pats_one (hy.fz (fz_same s3))⟩
    · rw [if_neg hx] at k
      rw [decide_eq_false hx]
      refine iteF ?_
      refine ⟨(by show 0 ≤ sizeLine; decide), fun l hl0 => ?_⟩
      exact k l _ (same_new hl0 _) ⟨[], upd_same, by simp [PatsAt]⟩
  | _ => cases hk
theorem scChoiceLeft : FnScope ["self", "forms", "found", "part"] ["self", "forms"] (defScope sChoiceLeft) := ⟨rfl, rfl, rfl, by decide +kernel, rfl, by decide +kernel, by decide +kernel⟩
/-- what a list of parts asks -/
theorem ask_parts {p : Pat} {ps : List Pat} {n m : Nat} (e : p = .chain ps ∨ p = .choice ps ∨ p = .mixed ps) (hc : Cn p) (h1 : sD p ≤ 1000) (h2 : dD p ≤ n) (h3 : dp p ≤ m + 1) :
    ∀ q ∈ ps, Cn q ∧ sD q ≤ 1000 ∧ dD q ≤ n ∧ dp q ≤ m ∧ sz q ≤ 1000 := by
  have hz := (bnd p).1
  have hcq : ∀ q ∈ ps, Cn q := by
    rcases e with e | e | e <;> subst e
    · exact cn_chain hc
    · exact cn_choice hc
    · exact cn_mixed hc
  have h4 : sDs ps ≤ 1000 := by
    rcases e with e | e | e <;> subst e <;> rw [sD] at h1 <;> omega
  have h5 : dDs ps ≤ n := by
    rcases e with e | e | e <;> subst e <;> rw [dD] at h2 <;> omega
  have h6 : dps ps ≤ m := by
    rcases e with e | e | e <;> subst e <;> rw [dp] at h3 <;> omega
  have h7 : szs ps ≤ 1000 := by
    rcases e with e | e | e <;> subst e <;> rw [sz] at hz <;> omega
  intro q hq
  have := sDs_mem hq
  have := dDs_mem hq
  have := dps_mem hq
  have := szs_mem hq
  exact ⟨hcq q hq, by omega, by omega, by omega, by omega⟩
theorem ok_ChoiceLeft {n m : Nat} (T : Tx K mg N) (M : ∀ k, Met P w K mg base (2 * n + 4 + m) (N.c k) "left" (spLeft N n m k) []) : Met P w K mg base (2 * n + 4 + (m + 1)) (N.c .choice) "left" (spLeft N n (m + 1) .choice) [] := by
  refine T.m_Choice_left.met scChoiceLeft (fun _ _ _ _ _ _ us hl => match us, hl with | [_, _], _ => rfl) len2 (fun f cdv A outer s H vs Q E hr h => ?_)
  obtain ⟨_, _, rfl, a, p, t, fs, rfl, rfl, ht, hk, hp, hc, h1, h2, h3, k⟩ := h
  have hr : Room (2 * n + 4 + m) _ := hr
  cases p with
  | choice ps =>
    have ask := ask_parts (.inr (.inl rfl)) hc h1 h2 h3
    have sm : ∀ r ∈ leftAll fs ps, Sm r ∧ dp r ≤ n := fun r hr => by
      have : r ∈ left fs (.choice ps) := by rw [left]; exact (mem_once _).mpr hr
      obtain ⟨x, y, _⟩ := left_sm hc h1 this
      exact ⟨x, by omega⟩
    have hlen := leftAll_len fs ps
    have hz : szs ps ≤ 1000 := by have := (bnd (.choice ps)).1; rw [sz] at this; omega
    rw [PatAt] at hp
    obtain ⟨dx, t2, bs, ea, et, hps⟩ := hp
    refine ⟨_, pss_cons (ps_set (i := 2) scChoiceLeft.nd rfl (Or.inl rfl) (pe_lst pa_nil))
      (pss_cons (ps_for PassesOwn.never rfl (pi_tup (pe_fld (pv 0) rfl)) (pg_name (i := 3) scChoiceLeft.nd rfl (Or.inl rfl))
        (pss_one (ps_expr (pe_bm PySem.F.plainAttrs_list PySem.F.slot_list_extend PySem.F.type_list_extend mt_extend (pv 2) (pa_cons (KR.pe_methD (pv 3) (fun i => met_md (M i)) hr (Nat.le_refl _) (pa_cons (pv 1) pa_nil)) pa_nil)))))
        (pss_one (ps_ret (pe_c (ok_each_once T n) hr (by omega) rfl (pa_cons (pv 2) pa_nil))))), ?_⟩
    refine ⟨(by show 0 ≤ sizeLine; decide), fun g hg0 => ?_⟩
    have s0 := same_new hg0 (.lst [])
    have hln := pats_len hps
    refine ⟨_, rfl, a, _, dx, _, _, rfl, s0 _ _ ea, T.cl_Choice, T.na_Choice_parts, look0, t2, rfl, ⟨_, SqT.of (s0 _ _ et)⟩, for_tup (xs := bs.map V.ref) (fun i σ H' => ∃ u, σ = [some (.ref a), some (.ref t), some (.ref g), u] ∧ Gat N H g (leftAll fs (ps.take i)) H') ?_ ?_ ?_ ?_⟩
    · exact ⟨none, rfl, by rw [List.take_zero, leftAll]; exact gat_new hg0⟩
    · rintro i σ H' hi ⟨u, rfl, G⟩
      exact SqT.of (G.same hg0 _ _ et)
    · rintro i x σ H' hx ⟨u, rfl, G⟩
      have s' := G.same hg0
      have hi : i < bs.length := by have := (List.getElem?_eq_some_iff.mp hx).1; rw [List.length_map] at this; exact this
      obtain ⟨b, q, e1, e2, e3, e4⟩ := pats_at hps hi hx
      subst e1
      have e5 := e4.fz (fz_same s')
      have hm : q ∈ ps := List.mem_of_getElem? e3
      obtain ⟨c1, c2, c3, c4, c5⟩ := ask q hm
      obtain ⟨dx2, fs2, i1, _, _, i4, _⟩ := pat_ins e5
      have e6 : leftAll fs (ps.take (i + 1)) = leftAll fs (ps.take i) ++ left fs q := by
        have ap : ∀ xs ys : List Pat, leftAll fs (xs ++ ys) = leftAll fs xs ++ leftAll fs ys := fun xs ys => by
          induction xs with
          | nil => rw [leftAll]; rfl
          | cons x xs ih => rw [List.cons_append, leftAll, leftAll, ih, List.append_assoc]
        rw [take_snoc e3, ap, leftAll, leftAll, List.append_nil]
      have hl1 := leftAll_len fs (ps.take (i + 1))
      have hl2 := szs_take ps (i + 1)
      rw [e6, List.length_append] at hl1
      have G0 := G
      obtain ⟨_, cs0, hgg0, hcs0⟩ := id G
      refine ⟨_, rfl, .inl ⟨rfl, _, SqL.of hgg0⟩, _, rfl, kdOf q, b, dx2, fs2, rfl, i1, i4, _, rfl, _, _, rfl, b, q, t, fs, rfl, rfl, s' _ _ ht, rfl, e5, c1, c2, c3, c4, fun l H2 s2 ⟨ds, hll, hds⟩ => ?_⟩
      have G2 := G.keep s2
      obtain ⟨_, cs, hgg, hcs⟩ := id G2
      have l1 := pats_len hcs
      have l2 := pats_len hds
      refine ⟨g, l, _, _, rfl, rfl, hgg, hll, by rw [List.length_map, List.length_map, sizeLine_eq]; omega, ?_⟩
      refine ⟨_, rfl, ?_⟩
      rw [e6]
      exact G2.add hds hgg hcs
    · rintro σ H' ⟨u, rfl, G⟩
      rw [List.length_map, hln, List.take_length] at G
      obtain ⟨_, cs, hgg, hcs⟩ := id G
      exact ⟨_, rfl, _, rfl, g, leftAll fs ps, rfl, ⟨cs, hgg, hcs⟩, fun r hr2 => (sm r hr2).1, dps_of fun r hr2 => (sm r hr2).2, by omega, fun l' H2 s2 hl' => k l' H2 ((G.same hg0).trans s2) (by rw [left]; exact hl')⟩
  | _ => cases hk
theorem scChainLeft : FnScope ["self", "forms", "found", "k", "behind", "rest"] ["self", "forms"] (defScope sChainLeft) := ⟨rfl, rfl, rfl, by decide +kernel, rfl, by decide +kernel, by decide +kernel⟩
theorem ok_ChainLeft {n m : Nat} (T : Tx K mg N) (M : ∀ k, Met P w K mg base (2 * n + 4 + m) (N.c k) "left" (spLeft N n m k) []) : Met P w K mg base (2 * n + 4 + (m + 1)) (N.c .chain) "left" (spLeft N n (m + 1) .chain) [] := by
  refine T.m_Chain_left.met scChainLeft (fun _ _ _ _ _ _ us hl => match us, hl with | [_, _], _ => rfl) len2 (fun f cdv A outer s H vs Q E hr h => ?_)
  obtain ⟨_, _, rfl, a, p, t, fs, rfl, rfl, ht, hk, hp, hc, h1, h2, h3, k⟩ := h
  have hr : Room (2 * n + 4 + m) _ := hr
  cases p with
  | chain ps =>
    have ask := ask_parts (.inl rfl) hc h1 h2 h3
    have sm : ∀ r ∈ leftChain fs ps, Sm r ∧ dp r ≤ n := fun r hr => by
      have : r ∈ left fs (.chain ps) := by rw [left]; exact (mem_once _).mpr hr
      obtain ⟨x, y, _⟩ := left_sm hc h1 this
      exact ⟨x, by omega⟩
    have hlen := leftChain_len fs ps
    have hz : szs ps ≤ 1000 := by have := (bnd (.chain ps)).1; rw [sz] at this; omega
    have hpl := szs_len ps
    rw [PatAt] at hp
    obtain ⟨dx, t2, bs, ea, et, hps⟩ := hp
    have hln := pats_len hps
    have tk : ∀ i, szs (ps.take i) ≤ szs ps := szs_take ps
    have dk : ∀ i, szs (ps.drop i) ≤ szs ps := fun i => by
      have e := congrArg szs (List.take_append_drop i ps)
      rw [szs_append] at e
      omega
    refine ⟨_, pss_cons (ps_set (i := 2) scChainLeft.nd rfl (Or.inl rfl) (pe_lst pa_nil))
      (pss_cons (ps_for PassesOwn.never rfl (pi_range1 (by rfl) T.z_range (pa_cons (pe_callB call_len_seq (by rfl) T.z_len PySem.boot_len (pa_cons (pe_fld (pv 0) rfl) pa_nil)) pa_nil)) (pg_name (i := 3) scChainLeft.nd rfl (Or.inl rfl))
        (pss_cons (ps_set (i := 4) scChainLeft.nd rfl (Or.inr rfl) (pe_callTy call_list_of rfl T.z_list boot_list (pa_cons (pe_slice sl_tup (pe_fld (pv 0) rfl) (po_some (pe_op op_add (pv 3) pe_int)) po_none) pa_nil)))
        (pss_cons (ps_expr (pe_bm PySem.F.plainAttrs_list PySem.F.slot_list_extend PySem.F.type_list_extend mt_extend (pv 2) (pa_cons (pe_lc (own := [("rest", 5)]) (g := gName 5) (tt := tYes) rfl scChainLeft.nd (pi_list (KR.pe_methD (pe_ix ix_tup (pe_fld (pv 0) rfl) (pv 3) (fun _ _ => rfl)) (fun i => met_md (M i)) hr (Nat.le_refl _) (pa_cons (pv 1) pa_nil))) (blkOk_by (N := ["self", "forms", "found", "k", "behind", "rest"]) (sc := defScope sChainLeft) (by decide +kernel))
            (fun _ _ _ _ _ => pg_name (i := 5) scChainLeft.nd rfl (Or.inl rfl)) (fun _ _ _ _ _ => pts_nil) (fun _ _ _ _ _ => pe_c (ok_chain T) hr (by omega) rfl (pa_cons (pe_op op_cat (pe_lst (pa_cons (pv 5) pa_nil)) (pv 4)) pa_nil))) pa_nil)))
        (pss_one (ps_if (pt_not (pt_val (KR.pe_meth0D (pe_ix ix_tup (pe_fld (pv 0) rfl) (pv 3) (fun _ _ => rfl)) (fun i => met_md (ok_bare T m i)) hr (by omega)))) (pss_one ps_break) pss_nil)))))
        (pss_one (ps_ret (pe_c (ok_each_once T n) hr (by omega) rfl (pa_cons (pv 2) pa_nil))))), ?_⟩
    refine ⟨(by show 0 ≤ sizeLine; decide), fun g hg0 => ?_⟩
    have s0 := same_new hg0 (.lst [])
    have fin : ∀ H', Gat N H g (leftChain fs ps) H' → spOnce N n [.ref g] H' Q E := fun H' G => by
      obtain ⟨_, cs, hgg, hcs⟩ := id G
      exact ⟨_, rfl, g, leftChain fs ps, rfl, ⟨cs, hgg, hcs⟩, fun r hr2 => (sm r hr2).1, dps_of fun r hr2 => (sm r hr2).2, by omega, fun l' H2 s2 hl' => k l' H2 ((G.same hg0).trans s2) (by rw [left]; exact hl')⟩
    refine ⟨_, rfl, a, _, dx, _, _, rfl, s0 _ _ ea, T.cl_Chain, T.na_Chain_parts, look0, t2, _, rfl, .inr (SqT.of (s0 _ _ et)), (bs.length : Int), by rw [List.length_map], by omega, by omega, for_range (n := (bs.length : Int).toNat) (fun i σ H' => ∃ u1 u2 u3, σ = [some (.ref a), some (.ref t), some (.ref g), u1, u2, u3] ∧ ∃ acc, Gat N H g acc H' ∧ leftChain fs ps = acc ++ leftChain fs (ps.drop i)) ?_ ?_ ?_⟩
    · exact ⟨none, none, none, rfl, [], gat_new hg0, by simp⟩
    · rintro i σ H' hi ⟨u1, u2, u3, rfl, acc, G, eL⟩
      rw [Int.toNat_natCast] at hi
      rw [Int.zero_add]
      have s' := G.same hg0
      have hx : (bs.map V.ref)[i]? = some (V.ref bs[i]) := by rw [List.getElem?_map, List.getElem?_eq_getElem hi]; rfl
      obtain ⟨b, q, e1, e2, e3, e4⟩ := pats_at hps hi hx
      cases e1
      have hip : i < ps.length := by omega
      have e5 := e4.fz (fz_same s')
      have hm : q ∈ ps := List.mem_of_getElem? e3
      obtain ⟨c1, c2, c3, c4, c5⟩ := ask q hm
      have edrop : ps.drop i = q :: ps.drop (i + 1) := by
        rw [List.drop_eq_getElem_cons hip]
        congr 1
        rw [List.getElem?_eq_getElem hip] at e3
        exact Option.some.inj e3
      refine ⟨_, rfl, a, _, dx, _, _, rfl, s' _ _ ea, T.cl_Chain, T.na_Chain_parts, look0, _, rfl, _, _, rfl, rfl, _, rfl, t2, _, rfl, SqT.of (s' _ _ et), cut_ne_from (by rw [List.length_map]; exact hi), fun B1 hB1 => ?_⟩
      rw [show ((i : Int) + 1) = ((i + 1 : Nat) : Int) from rfl, cut_from, ← List.map_drop]
      refine ⟨B1, _, rfl, .inr (SqT.of upd_same), fun B hB => ?_⟩
      have sB : Same H' (upd (upd H' B1 (.tup ((bs.drop (i + 1)).map V.ref))) B (.lst ((bs.drop (i + 1)).map V.ref))) := (same_new hB1 _).trans (same_new hB _)
      generalize hH2 : upd (upd H' B1 (.tup ((bs.drop (i + 1)).map V.ref))) B (.lst ((bs.drop (i + 1)).map V.ref)) = H2 at *
      have hBl : H2 B = some (.lst ((bs.drop (i + 1)).map V.ref)) := by rw [← hH2]; exact upd_same
      clear hB hH2
      have G2 := G.keep sB
      have sH2 := s'.trans sB
      have hdr : PatsAt N H2 (ps.drop (i + 1)) (bs.drop (i + 1)) := (pats_drop (i + 1) hps).fz (fz_same sH2)
      obtain ⟨dx2, fs2, i1, i2, i3, i4, _⟩ := pat_ins (e5.fz (fz_same sB))
      obtain ⟨_, cs0, hgg0, hcs0⟩ := id G2
      refine ⟨_, rfl, .inl ⟨rfl, _, SqL.of hgg0⟩, _, rfl, a, _, dx, _, _, rfl, sH2 _ _ ea, T.cl_Chain, T.na_Chain_parts, look0, _, rfl, t2, _, _, _, rfl, rfl, SqT.of (sH2 _ _ et), atI_nat hx, kdOf q, _, dx2, fs2, rfl, i1, i4, _, rfl, _, _, rfl, _, q, t, fs, rfl, rfl, sH2 _ _ ht, rfl, e5.fz (fz_same sB), c1, c2, c3, c4, fun l H3 s3 ⟨ds, hll, hds⟩ => ?_⟩
      have lsm := left_len q fs
      have l2 := pats_len hds
      refine ⟨l, rfl, ⟨_, SqL.of hll⟩, fun D hD => rd_lc walk_list yat_eq hD (by rw [List.length_map]; omega) (fun j y H' => ∃ r b, (left fs q)[j]? = some r ∧ y = .ref b ∧ PatAt N H' (chain' (r :: ps.drop (i + 1))) b) (fun j y H1 H2 z ⟨r, b, h1, h2, h3⟩ => ⟨r, b, h1, h2, h3.fz z⟩)
        (fun H' s' => SqL.of (s' _ _ hll)) (fun j x H4 C hj y s4 k' => ?_) (fun H4 acc2 s4 hacc hl2 hf => ?_)⟩
      · rw [List.length_map] at hj
        obtain ⟨b2, r, f1, f2, f3, f4⟩ := pats_at hds hj y.2
        subst f1
        have f5 := f4.fz (fz_same s4)
        have hrl : r ∈ left fs q := List.mem_of_getElem? f3
        obtain ⟨g1, g2, g3⟩ := left_sm c1 c2 hrl
        have hd0 : (ps.drop (i + 1)).length ≤ 1000 := by rw [List.length_drop]; omega
        refine ⟨_, rfl, (by show 1 ≤ sizeLine; decide), fun L1 hL1 => ?_⟩
        have s5 : Same H4 (upd H4 L1 (.lst [.ref b2])) := same_new hL1 _
        refine ⟨_, rfl, L1, B, _, _, rfl, rfl, upd_same, s5 _ _ (s4 _ _ (s3 _ _ hBl)), by rw [List.length_map, List.length_drop, sizeLine_eq]; simp; omega, fun L2 hL2 => ?_⟩
        have s6 := s5.trans (same_new hL2 (.lst ([.ref b2] ++ (bs.drop (i + 1)).map V.ref)))
        have hdk := dk (i + 1)
        refine ⟨_, rfl, L2, r :: ps.drop (i + 1), rfl, ⟨b2 :: bs.drop (i + 1), upd_same, ?_⟩, by rw [szs]; omega, fun c H5 s7 hc5 => k' _ H5 (s6.trans s7) ⟨r, c, f3, rfl, hc5⟩⟩
        rw [PatsAt]
        exact ⟨f5.fz (fz_same s6), hdr.fz (fz_same (s3.trans (s4.trans s6)))⟩
      · rw [List.length_map] at hl2 hf
        obtain ⟨es, ee, hes⟩ := acc_pats (ps := (left fs q).map fun r => chain' (r :: ps.drop (i + 1))) (by rw [hl2, l2, List.length_map]) (fun j hj => by
          rw [List.length_map] at hj
          obtain ⟨y, h1, r, b, h2, h3, h4⟩ := hf j (by omega)
          exact ⟨y, h1, _, b, by rw [List.getElem?_map, h2]; rfl, h3, h4⟩)
        subst ee
        have sAll := sB.trans (s3.trans s4)
        have G4 := G.keep sAll
        obtain ⟨_, cs, hgg, hcs⟩ := id G4
        have l3 := pats_len hes
        have l4 := pats_len hcs
        rw [List.length_map] at l3
        have e7 : leftChain fs ps = (acc ++ (left fs q).map fun r => chain' (r :: ps.drop (i + 1))) ++ (if bare q then leftChain fs (ps.drop (i + 1)) else []) := by
          rw [eL, edrop, leftChain, List.append_assoc]
        have l5 := congrArg List.length e7
        rw [List.length_append, List.length_append, List.length_map] at l5
        refine ⟨g, D, _, _, rfl, rfl, hgg, hacc, by rw [List.length_map, List.length_map, sizeLine_eq]; omega, ?_⟩
        have G5 := G4.add hes hgg hcs
        have s5 := G5.same hg0
        generalize upd H4 g (.lst (cs.map V.ref ++ es.map V.ref)) = H5 at *
        have e8 := e4.fz (fz_same s5)
        obtain ⟨dx3, fs3, j1, j2, j3, _⟩ := pat_ins e8
        refine ⟨_, rfl, a, _, dx, _, _, rfl, s5 _ _ ea, T.cl_Chain, T.na_Chain_parts, look0, _, rfl, t2, _, _, _, rfl, rfl, SqT.of (s5 _ _ et), atI_nat hx, kdOf q, _, dx3, fs3, rfl, j1, j3, _, rfl, _, q, rfl, rfl, e8, c4, c5, fun H6 s6 => ⟨_, rfl, ?_⟩⟩
        cases eb : bare q with
        | false =>
          refine iteT ?_
          rw [eb, if_neg Bool.false_ne_true, List.append_nil] at e7
          exact ⟨_, rfl, fin H6 (by rw [e7]; exact G5.keep s6)⟩
        | true =>
          refine iteF ?_
          rw [eb, if_pos rfl] at e7
          exact ⟨_, _, _, rfl, _, G5.keep s6, e7⟩

    · rintro σ H' ⟨u1, u2, u3, rfl, acc, G, eL⟩
      rw [Int.toNat_natCast, hln, List.drop_length, leftChain, List.append_nil] at eL
      exact ⟨_, rfl, fin H' (by rw [eL]; exact G)⟩
  | _ => cases hk
theorem scMixedLeft : FnScope ["self", "forms", "found", "k", "ahead", "behind", "rest"] ["self", "forms"] (defScope sMixedLeft) := ⟨rfl, rfl, rfl, by decide +kernel, rfl, by decide +kernel, by decide +kernel⟩
theorem ok_MixedLeft {n m : Nat} (T : Tx K mg N) (M : ∀ k, Met P w K mg base (2 * n + 4 + m) (N.c k) "left" (spLeft N n m k) []) : Met P w K mg base (2 * n + 4 + (m + 1)) (N.c .mixed) "left" (spLeft N n (m + 1) .mixed) [] := by
  refine T.m_Mixed_left.met scMixedLeft (fun _ _ _ _ _ _ us hl => match us, hl with | [_, _], _ => rfl) len2 (fun f cdv A outer s H vs Q E hr h => ?_)
  obtain ⟨_, _, rfl, a, p, t, fs, rfl, rfl, ht, hk, hp, hc, h1, h2, h3, k⟩ := h
  have hr : Room (2 * n + 4 + m) _ := hr
  cases p with
  | mixed ps =>
    have ask := ask_parts (.inr (.inr rfl)) hc h1 h2 h3
    have sm : ∀ r ∈ leftMix fs [] ps, Sm r ∧ dp r ≤ n := fun r hr => by
      have : r ∈ left fs (.mixed ps) := by rw [left]; exact (mem_once _).mpr hr
      obtain ⟨x, y, _⟩ := left_sm hc h1 this
      exact ⟨x, by omega⟩
    have hlen := leftMix_len fs ps []
    have hz : szs ps ≤ 1000 := by have := (bnd (.mixed ps)).1; rw [sz] at this; omega
    have hpl := szs_len ps
    rw [PatAt] at hp
    obtain ⟨dx, t2, bs, ea, et, hps⟩ := hp
    have hln := pats_len hps
    have tk : ∀ i, szs (ps.take i) ≤ szs ps := szs_take ps
    have dk : ∀ i, szs (ps.drop i) ≤ szs ps := fun i => by
      have e := congrArg szs (List.take_append_drop i ps)
      rw [szs_append] at e
      omega
    refine ⟨_, pss_cons (ps_set (i := 2) scMixedLeft.nd rfl (Or.inl rfl) (pe_lst pa_nil))
      (pss_cons (ps_for PassesOwn.never rfl (pi_range1 (by rfl) T.z_range (pa_cons (pe_callB call_len_seq (by rfl) T.z_len PySem.boot_len (pa_cons (pe_fld (pv 0) rfl) pa_nil)) pa_nil)) (pg_name (i := 3) scMixedLeft.nd rfl (Or.inl rfl))
        (pss_cons (ps_set (i := 4) scMixedLeft.nd rfl (Or.inr rfl) (pe_callTy call_list_of rfl T.z_list boot_list (pa_cons (pe_slice sl_tup (pe_fld (pv 0) rfl) po_none (po_some (pv 3))) pa_nil)))
        (pss_cons (ps_set (i := 5) scMixedLeft.nd rfl (Or.inr rfl) (pe_callTy call_list_of rfl T.z_list boot_list (pa_cons (pe_slice sl_tup (pe_fld (pv 0) rfl) (po_some (pe_op op_add (pv 3) pe_int)) po_none) pa_nil)))
        (pss_one (ps_expr (pe_bm PySem.F.plainAttrs_list PySem.F.slot_list_extend PySem.F.type_list_extend mt_extend (pv 2) (pa_cons (pe_lc (own := [("rest", 6)]) (g := gName 6) (tt := tYes) rfl scMixedLeft.nd (pi_list (KR.pe_methD (pe_ix ix_tup (pe_fld (pv 0) rfl) (pv 3) (fun _ _ => rfl)) (fun i => met_md (M i)) hr (Nat.le_refl _) (pa_cons (pv 1) pa_nil))) (blkOk_by (N := ["self", "forms", "found", "k", "ahead", "behind", "rest"]) (sc := defScope sMixedLeft) (by decide +kernel))
            (fun _ _ _ _ _ => pg_name (i := 6) scMixedLeft.nd rfl (Or.inl rfl)) (fun _ _ _ _ _ => pts_nil) (fun _ _ _ _ _ => pe_c (ok_mixed T) hr (by omega) rfl (pa_cons (pe_op op_cat (pe_op op_cat (pv 4) (pe_lst (pa_cons (pv 6) pa_nil))) (pv 5)) pa_nil))) pa_nil)))))))
        (pss_one (ps_ret (pe_c (ok_each_once T n) hr (by omega) rfl (pa_cons (pv 2) pa_nil))))), ?_⟩
    refine ⟨(by show 0 ≤ sizeLine; decide), fun g hg0 => ?_⟩
    have s0 := same_new hg0 (.lst [])
    have fin : ∀ H', Gat N H g (leftMix fs [] ps) H' → spOnce N n [.ref g] H' Q E := fun H' G => by
      obtain ⟨_, cs, hgg, hcs⟩ := id G
      exact ⟨_, rfl, g, leftMix fs [] ps, rfl, ⟨cs, hgg, hcs⟩, fun r hr2 => (sm r hr2).1, dps_of fun r hr2 => (sm r hr2).2, by omega, fun l' H2 s2 hl' => k l' H2 ((G.same hg0).trans s2) (by rw [left]; exact hl')⟩
    refine ⟨_, rfl, a, _, dx, _, _, rfl, s0 _ _ ea, T.cl_Mixed, T.na_Mixed_parts, look0, t2, _, rfl, .inr (SqT.of (s0 _ _ et)), (bs.length : Int), by rw [List.length_map], by omega, by omega, for_range (n := (bs.length : Int).toNat) (fun i σ H' => ∃ u1 u2 u3 u4, σ = [some (.ref a), some (.ref t), some (.ref g), u1, u2, u3, u4] ∧ ∃ acc, Gat N H g acc H' ∧ leftMix fs [] ps = acc ++ leftMix fs (ps.take i) (ps.drop i)) ?_ ?_ ?_⟩
    · exact ⟨none, none, none, none, rfl, [], gat_new hg0, by simp⟩
    · rintro i σ H' hi ⟨u1, u2, u3, u4, rfl, acc, G, eL⟩
      rw [Int.toNat_natCast] at hi
      rw [Int.zero_add]
      have s' := G.same hg0
      have hx : (bs.map V.ref)[i]? = some (V.ref bs[i]) := by rw [List.getElem?_map, List.getElem?_eq_getElem hi]; rfl
      obtain ⟨b, q, e1, e2, e3, e4⟩ := pats_at hps hi hx
      cases e1
      have hip : i < ps.length := by omega
      have e5 := e4.fz (fz_same s')
      have hm : q ∈ ps := List.mem_of_getElem? e3
      obtain ⟨c1, c2, c3, c4, c5⟩ := ask q hm
      have edrop : ps.drop i = q :: ps.drop (i + 1) := by
        rw [List.drop_eq_getElem_cons hip]
        congr 1
        rw [List.getElem?_eq_getElem hip] at e3
        exact Option.some.inj e3
      refine ⟨_, rfl, a, _, dx, _, _, rfl, s' _ _ ea, T.cl_Mixed, T.na_Mixed_parts, look0, _, rfl, _, rfl, t2, _, rfl, SqT.of (s' _ _ et), cut_ne_to (by rw [List.length_map]; exact hi), fun A1 hA1 => ?_⟩
      rw [cut_to, ← List.map_take]
      refine ⟨A1, _, rfl, .inr (SqT.of upd_same), fun A2 hA2 => ?_⟩
      have sA : Same H' (upd (upd H' A1 (.tup ((bs.take i).map V.ref))) A2 (.lst ((bs.take i).map V.ref))) := (same_new hA1 _).trans (same_new hA2 _)
      generalize hH1 : upd (upd H' A1 (.tup ((bs.take i).map V.ref))) A2 (.lst ((bs.take i).map V.ref)) = H1 at *
      have hAl : H1 A2 = some (.lst ((bs.take i).map V.ref)) := by rw [← hH1]; exact upd_same
      clear hA2 hH1
      have sH1 := s'.trans sA
      refine ⟨_, rfl, a, _, dx, _, _, rfl, sH1 _ _ ea, T.cl_Mixed, T.na_Mixed_parts, look0, _, rfl, _, _, rfl, rfl, _, rfl, t2, _, rfl, SqT.of (sH1 _ _ et), cut_ne_from (by rw [List.length_map]; exact hi), fun B1 hB1 => ?_⟩
      rw [show ((i : Int) + 1) = ((i + 1 : Nat) : Int) from rfl, cut_from, ← List.map_drop]
      refine ⟨B1, _, rfl, .inr (SqT.of upd_same), fun B hB => ?_⟩
      have sB : Same H1 (upd (upd H1 B1 (.tup ((bs.drop (i + 1)).map V.ref))) B (.lst ((bs.drop (i + 1)).map V.ref))) := (same_new hB1 _).trans (same_new hB _)
      generalize hH2 : upd (upd H1 B1 (.tup ((bs.drop (i + 1)).map V.ref))) B (.lst ((bs.drop (i + 1)).map V.ref)) = H2 at *
      have hBl : H2 B = some (.lst ((bs.drop (i + 1)).map V.ref)) := by rw [← hH2]; exact upd_same
      clear hB hH2
      have hAl := sB _ _ hAl
      have sB := sA.trans sB
      have G2 := G.keep sB
      have sH2 := s'.trans sB
      have hdr : PatsAt N H2 (ps.drop (i + 1)) (bs.drop (i + 1)) := (pats_drop (i + 1) hps).fz (fz_same sH2)
      have htk : PatsAt N H2 (ps.take i) (bs.take i) := (pats_take i hps).fz (fz_same sH2)
      obtain ⟨dx2, fs2, i1, i2, i3, i4, _⟩ := pat_ins (e5.fz (fz_same sB))
      obtain ⟨_, cs0, hgg0, hcs0⟩ := id G2
      refine ⟨_, rfl, .inl ⟨rfl, _, SqL.of hgg0⟩, _, rfl, a, _, dx, _, _, rfl, sH2 _ _ ea, T.cl_Mixed, T.na_Mixed_parts, look0, _, rfl, t2, _, _, _, rfl, rfl, SqT.of (sH2 _ _ et), atI_nat hx, kdOf q, _, dx2, fs2, rfl, i1, i4, _, rfl, _, _, rfl, _, q, t, fs, rfl, rfl, sH2 _ _ ht, rfl, e5.fz (fz_same sB), c1, c2, c3, c4, fun l H3 s3 ⟨ds, hll, hds⟩ => ?_⟩
      have lsm := left_len q fs
      have l2 := pats_len hds
      refine ⟨l, rfl, ⟨_, SqL.of hll⟩, fun D hD => rd_lc walk_list yat_eq hD (by rw [List.length_map]; omega) (fun j y H' => ∃ r b, (left fs q)[j]? = some r ∧ y = .ref b ∧ PatAt N H' (mixed' (ps.take i ++ r :: ps.drop (i + 1))) b) (fun j y H1 H2 z ⟨r, b, h1, h2, h3⟩ => ⟨r, b, h1, h2, h3.fz z⟩)
        (fun H' s' => SqL.of (s' _ _ hll)) (fun j x H4 C hj y s4 k' => ?_) (fun H4 acc2 s4 hacc hl2 hf => ?_)⟩
      · rw [List.length_map] at hj
        obtain ⟨b2, r, f1, f2, f3, f4⟩ := pats_at hds hj y.2
        subst f1
        have f5 := f4.fz (fz_same s4)
        have hrl : r ∈ left fs q := List.mem_of_getElem? f3
        obtain ⟨g1, g2, g3⟩ := left_sm c1 c2 hrl
        have s34 := s3.trans s4
        have hbl : bs.length ≤ 1000 := by omega
        refine ⟨_, rfl, _, rfl, (by show 1 ≤ sizeLine; decide), fun L1 hL1 => ?_⟩
        have s5 : Same H4 (upd H4 L1 (.lst [.ref b2])) := same_new hL1 _
        refine ⟨A2, L1, _, _, rfl, rfl, s5 _ _ (s34 _ _ hAl), upd_same, by rw [List.length_map, List.length_take, sizeLine_eq]; simp; omega, fun L2 hL2 => ?_⟩
        have s6 := s5.trans (same_new hL2 (.lst ((bs.take i).map V.ref ++ [.ref b2])))
        refine ⟨_, rfl, L2, B, _, _, rfl, rfl, upd_same, s6 _ _ (s34 _ _ hBl), by rw [List.length_append, List.length_map, List.length_map, List.length_take, List.length_drop, sizeLine_eq]; simp; omega, fun L3 hL3 => ?_⟩
        have s7 := s6.trans (same_new hL3 (.lst ((bs.take i).map V.ref ++ [.ref b2] ++ (bs.drop (i + 1)).map V.ref)))
        have hdk := dk (i + 1)
        have htk2 := tk i
        refine ⟨_, rfl, L3, ps.take i ++ r :: ps.drop (i + 1), rfl, ⟨bs.take i ++ b2 :: bs.drop (i + 1), ?_, ?_⟩, by rw [szs_append, szs]; omega, fun c H5 s8 hc5 => k' _ H5 (s7.trans s8) ⟨r, c, f3, rfl, hc5⟩⟩
        · rw [upd_same, List.map_append, List.map_cons, List.append_assoc]
          rfl
        · refine pats_app (htk.fz (fz_same (s34.trans s7))) ?_
          rw [PatsAt]
          exact ⟨f5.fz (fz_same s7), hdr.fz (fz_same (s34.trans s7))⟩
      · rw [List.length_map] at hl2 hf
        obtain ⟨es, ee, hes⟩ := acc_pats (ps := (left fs q).map fun r => mixed' (ps.take i ++ r :: ps.drop (i + 1))) (by rw [hl2, l2, List.length_map]) (fun j hj => by
          rw [List.length_map] at hj
          obtain ⟨y, h1, r, b, h2, h3, h4⟩ := hf j (by omega)
          exact ⟨y, h1, _, b, by rw [List.getElem?_map, h2]; rfl, h3, h4⟩)
        subst ee
        have sAll := sB.trans (s3.trans s4)
        have G4 := G.keep sAll
        obtain ⟨_, cs, hgg, hcs⟩ := id G4
        have l3 := pats_len hes
        have l4 := pats_len hcs
        rw [List.length_map] at l3
        have e7 : leftMix fs [] ps = (acc ++ (left fs q).map fun r => mixed' (ps.take i ++ r :: ps.drop (i + 1))) ++ leftMix fs (ps.take (i + 1)) (ps.drop (i + 1)) := by
          rw [eL, edrop, leftMix, List.append_assoc, take_snoc e3]
        have l5 := congrArg List.length e7
        rw [List.length_append, List.length_append, List.length_map] at l5
        refine ⟨g, D, _, _, rfl, rfl, hgg, hacc, by rw [List.length_map, List.length_map, sizeLine_eq]; omega, ?_⟩
        exact ⟨_, _, _, _, rfl, _, G4.add hes hgg hcs, e7⟩

    · rintro σ H' ⟨u1, u2, u3, u4, rfl, acc, G, eL⟩
      rw [Int.toNat_natCast, hln, List.drop_length, leftMix, List.append_nil] at eL
      exact ⟨_, rfl, fin H' (by rw [eL]; exact G)⟩
  | _ => cases hk
theorem scTimesLeft : FnScope ["self", "forms", "high", "behind", "rest"] ["self", "forms"] (defScope sTimesLeft) := ⟨rfl, rfl, rfl, by decide +kernel, rfl, by decide +kernel, by decide +kernel⟩
theorem ok_TimesLeft {n m : Nat} (T : Tx K mg N) (M : ∀ k, Met P w K mg base (2 * n + 4 + m) (N.c k) "left" (spLeft N n m k) []) : Met P w K mg base (2 * n + 4 + (m + 1)) (N.c .times) "left" (spLeft N n (m + 1) .times) [] := by
  refine T.m_Times_left.met scTimesLeft (fun _ _ _ _ _ _ us hl => match us, hl with | [_, _], _ => rfl) len2 (fun f cdv A outer s H vs Q E hr h => ?_)
  obtain ⟨_, _, rfl, a, p, t, fs, rfl, rfl, ht, hk, hp, hc, h1, h2, h3, k⟩ := h
  have hr : Room (2 * n + 4 + m) _ := hr
  cases p with
  | times p lo hi =>
    have sm : ∀ r ∈ (left fs p).map (fun r => chain' [r, times' p (lo - 1) (dec hi)]), Sm r ∧ dp r ≤ n := fun r hr => by
      have : r ∈ left fs (.times p lo hi) := by rw [left]; exact (mem_once _).mpr hr
      obtain ⟨x, y, _⟩ := left_sm hc h1 this
      exact ⟨x, by omega⟩
    have hcp := cn_times hc
    have hcnt : CntOk lo hi := by rw [Cn] at hc; exact hc.2.2.1
    have hi0 : hi ≠ some 0 := by rw [Cn] at hc; exact hc.2.2.2.1
    rw [sD] at h1
    rw [dD] at h2
    rw [dp] at h3
    have hlen := left_len p fs
    rw [PatAt] at hp
    obtain ⟨dx, b, ea, hb⟩ := hp
    refine ⟨_, pss_cons (ps_set (i := 2) scTimesLeft.nd rfl (Or.inl rfl) pe_non)
      (pss_cons (ps_if (pt_cmp (pc_notN (pe_fld (pv 0) rfl)) rfl) (pss_one (ps_set (i := 2) scTimesLeft.nd rfl (Or.inl rfl) (pe_op op_sub (pe_fld (pv 0) rfl) pe_int))) pss_nil)
      (pss_cons (ps_set (i := 3) scTimesLeft.nd rfl (Or.inr rfl) (pe_c (ok_times3 T) hr (by omega) rfl (pa_cons (pe_fld (pv 0) rfl) (pa_cons (pe_callB (call_max2 rfl) (by rfl) T.z_max (by decide +kernel) (pa_cons (pe_op op_sub (pe_fld (pv 0) rfl) pe_int) (pa_cons pe_int pa_nil))) (pa_cons (pv 2) pa_nil)))))
      (pss_one (ps_ret (pe_c (ok_each_once T n) hr (by omega) rfl (pa_cons (pe_lc (own := [("rest", 4)]) (g := gName 4) (tt := tYes) rfl scTimesLeft.nd (pi_list (KR.pe_methD (pe_fld (pv 0) rfl) (fun i => met_md (M i)) hr (Nat.le_refl _) (pa_cons (pv 1) pa_nil))) (blkOk_by (N := ["self", "forms", "high", "behind", "rest"]) (sc := defScope sTimesLeft) (by decide +kernel))
            (fun _ _ _ _ _ => pg_name (i := 4) scTimesLeft.nd rfl (Or.inl rfl)) (fun _ _ _ _ _ => pts_nil) (fun _ _ _ _ _ => pe_c (ok_chain T) hr (by omega) rfl (pa_cons (pe_lst (pa_cons (pv 4) (pa_cons (pv 3) pa_nil))) pa_nil))) pa_nil)))))), ?_⟩
    refine ⟨_, rfl, a, _, dx, _, _, rfl, ea, T.cl_Times, T.na_Times_high, fsT_high, _, rfl, ?_⟩
    have low : ((if (0 : Int) > (lo : Int) - 1 then (0 : Int) else (lo : Int) - 1)) = ((lo - 1 : Nat) : Int) := by
      split <;> omega
    cases hi with
    | none =>
      refine iteF ?_
      refine ⟨_, rfl, a, _, dx, _, _, rfl, ea, T.cl_Times, T.na_Times_part, fsT_part, _, rfl, a, _, dx, _, _, rfl, ea, T.cl_Times, T.na_Times_low, fsT_low, _, _, rfl, rfl, _, _, rfl, _, rfl, _, _, _, rfl, b, p, lo - 1, none, rfl, by rw [low], rfl, hb, cnt_dec hcnt, fun c H1 s1 hcc => ?_⟩
      obtain ⟨dx2, fs2, i1, i2, i3, i4, _⟩ := pat_ins (hb.fz (fz_same s1))
      refine ⟨_, rfl, a, _, dx, _, _, rfl, s1 _ _ ea, T.cl_Times, T.na_Times_part, fsT_part, kdOf p, b, dx2, fs2, rfl, i1, i4, _, rfl, _, _, rfl, b, p, t, fs, rfl, rfl, s1 _ _ ht, rfl, hb.fz (fz_same s1), hcp, by omega, by omega, by omega, fun l H3 s3 ⟨ds, hll, hds⟩ => ?_⟩
      have l2 := pats_len hds
      have bz := (bnd p).1
      refine ⟨l, rfl, ⟨_, SqL.of hll⟩, fun D hD => rd_lc walk_list yat_eq hD (by rw [List.length_map]; omega) (fun j y H' => ∃ r b, (left fs p)[j]? = some r ∧ y = .ref b ∧ PatAt N H' (chain' [r, times' p (lo - 1) none]) b) (fun j y H1 H2 z ⟨r, b, h1, h2, h3⟩ => ⟨r, b, h1, h2, h3.fz z⟩)
        (fun H' s' => SqL.of (s' _ _ hll)) (fun j x H4 C hj y s4 k' => ?_) (fun H4 acc2 s4 hacc hl2 hf => ?_)⟩
      · rw [List.length_map] at hj
        obtain ⟨b2, r, f1, f2, f3, f4⟩ := pats_at hds hj y.2
        subst f1
        have f5 := f4.fz (fz_same s4)
        have hrl : r ∈ left fs p := List.mem_of_getElem? f3
        obtain ⟨g1, g2, g3⟩ := left_sm hcp (by omega) hrl
        refine ⟨_, rfl, _, rfl, (by show 2 ≤ sizeLine; decide), fun L1 hL1 => ?_⟩
        have s5 : Same H4 (upd H4 L1 (.lst [.ref b2, .ref c])) := same_new hL1 _
        have tz := sz_times' p (lo - 1) none
        refine ⟨_, rfl, L1, [r, times' p (lo - 1) none], rfl, ⟨[b2, c], upd_same, ?_⟩, by rw [szs, szs, szs]; omega, fun c2 H5 s7 hc5 => k' _ H5 (s5.trans s7) ⟨r, c2, f3, rfl, hc5⟩⟩
        rw [PatsAt]
        exact ⟨f5.fz (fz_same s5), pats_one (hcc.fz (fz_same (s3.trans (s4.trans s5))))⟩
      · rw [List.length_map] at hl2 hf
        obtain ⟨es, ee, hes⟩ := acc_pats (ps := (left fs p).map fun r => chain' [r, times' p (lo - 1) none]) (by rw [hl2, l2, List.length_map]) (fun j hj => by
          rw [List.length_map] at hj
          obtain ⟨y, h1, r, b, h2, h3, h4⟩ := hf j (by omega)
          exact ⟨y, h1, _, b, by rw [List.getElem?_map, h2]; rfl, h3, h4⟩)
        subst ee
        exact ⟨_, rfl, D, (left fs p).map (fun r => chain' [r, times' p (lo - 1) none]), rfl, ⟨es, hacc, hes⟩, fun r hr2 => (sm r hr2).1, dps_of fun r hr2 => (sm r hr2).2, by rw [List.length_map]; omega, fun l' H6 s6 hl' => k l' H6 ((s1.trans (s3.trans s4)).trans s6) (by rw [left]; exact hl')⟩
    | some h =>
      have h0 : h ≠ 0 := fun z => hi0 (by rw [z])
      refine iteT ?_
      refine ⟨_, rfl, a, _, dx, _, _, rfl, ea, T.cl_Times, T.na_Times_high, fsT_high, _, _, rfl, rfl, ?_⟩
      refine ⟨_, rfl, a, _, dx, _, _, rfl, ea, T.cl_Times, T.na_Times_part, fsT_part, _, rfl, a, _, dx, _, _, rfl, ea, T.cl_Times, T.na_Times_low, fsT_low, _, _, rfl, rfl, _, _, rfl, _, rfl, _, _, _, rfl, b, p, lo - 1, (some (h - 1)), rfl, by rw [low], congrArg V.int (by omega : ((h : Nat) : Int) - 1 = ((h - 1 : Nat) : Int)), hb, cnt_dec hcnt, fun c H1 s1 hcc => ?_⟩
      obtain ⟨dx2, fs2, i1, i2, i3, i4, _⟩ := pat_ins (hb.fz (fz_same s1))
      refine ⟨_, rfl, a, _, dx, _, _, rfl, s1 _ _ ea, T.cl_Times, T.na_Times_part, fsT_part, kdOf p, b, dx2, fs2, rfl, i1, i4, _, rfl, _, _, rfl, b, p, t, fs, rfl, rfl, s1 _ _ ht, rfl, hb.fz (fz_same s1), hcp, by omega, by omega, by omega, fun l H3 s3 ⟨ds, hll, hds⟩ => ?_⟩
      have l2 := pats_len hds
      have bz := (bnd p).1
      refine ⟨l, rfl, ⟨_, SqL.of hll⟩, fun D hD => rd_lc walk_list yat_eq hD (by rw [List.length_map]; omega) (fun j y H' => ∃ r b, (left fs p)[j]? = some r ∧ y = .ref b ∧ PatAt N H' (chain' [r, times' p (lo - 1) (some (h - 1))]) b) (fun j y H1 H2 z ⟨r, b, h1, h2, h3⟩ => ⟨r, b, h1, h2, h3.fz z⟩)
        (fun H' s' => SqL.of (s' _ _ hll)) (fun j x H4 C hj y s4 k' => ?_) (fun H4 acc2 s4 hacc hl2 hf => ?_)⟩
      · rw [List.length_map] at hj
        obtain ⟨b2, r, f1, f2, f3, f4⟩ := pats_at hds hj y.2
        subst f1
        have f5 := f4.fz (fz_same s4)
        have hrl : r ∈ left fs p := List.mem_of_getElem? f3
        obtain ⟨g1, g2, g3⟩ := left_sm hcp (by omega) hrl
        refine ⟨_, rfl, _, rfl, (by show 2 ≤ sizeLine; decide), fun L1 hL1 => ?_⟩
        have s5 : Same H4 (upd H4 L1 (.lst [.ref b2, .ref c])) := same_new hL1 _
        have tz := sz_times' p (lo - 1) (some (h - 1))
        refine ⟨_, rfl, L1, [r, times' p (lo - 1) (some (h - 1))], rfl, ⟨[b2, c], upd_same, ?_⟩, by rw [szs, szs, szs]; omega, fun c2 H5 s7 hc5 => k' _ H5 (s5.trans s7) ⟨r, c2, f3, rfl, hc5⟩⟩
        rw [PatsAt]
        exact ⟨f5.fz (fz_same s5), pats_one (hcc.fz (fz_same (s3.trans (s4.trans s5))))⟩
      · rw [List.length_map] at hl2 hf
        obtain ⟨es, ee, hes⟩ := acc_pats (ps := (left fs p).map fun r => chain' [r, times' p (lo - 1) (some (h - 1))]) (by rw [hl2, l2, List.length_map]) (fun j hj => by
          rw [List.length_map] at hj
          obtain ⟨y, h1, r, b, h2, h3, h4⟩ := hf j (by omega)
          exact ⟨y, h1, _, b, by rw [List.getElem?_map, h2]; rfl, h3, h4⟩)
        subst ee
        exact ⟨_, rfl, D, (left fs p).map (fun r => chain' [r, times' p (lo - 1) (some (h - 1))]), rfl, ⟨es, hacc, hes⟩, fun r hr2 => (sm r hr2).1, dps_of fun r hr2 => (sm r hr2).2, by rw [List.length_map]; omega, fun l' H6 s6 hl' => k l' H6 ((s1.trans (s3.trans s4)).trans s6) (by rw [left]; exact hl')⟩
  | _ => cases hk
theorem left_no {n : Nat} {k : Kd} : ∀ vs H Q E, ¬ spLeft N n 0 k vs H Q E := fun vs H Q E ⟨_, _, _, _, p, _, _, _, _, _, _, _, _, _, _, h, _⟩ => by
  have := dp_pos p
  omega
theorem ok_left (T : Tx K mg N) (n : Nat) : ∀ (m : Nat) (k : Kd), Met P w K mg base (2 * n + 4 + m) (N.c k) "left" (spLeft N n m k) []
  | 0, .one => Met.mono' (T.m_One_left.void (ps := ["self", "forms"]) (fun _ _ _ _ _ _ us hl => match us, hl with | [_, _], _ => rfl) left_no) (by omega)
  | 0, .chain => Met.mono' (T.m_Chain_left.void (ps := ["self", "forms"]) (fun _ _ _ _ _ _ us hl => match us, hl with | [_, _], _ => rfl) left_no) (by omega)
  | 0, .choice => Met.mono' (T.m_Choice_left.void (ps := ["self", "forms"]) (fun _ _ _ _ _ _ us hl => match us, hl with | [_, _], _ => rfl) left_no) (by omega)
  | 0, .times => Met.mono' (T.m_Times_left.void (ps := ["self", "forms"]) (fun _ _ _ _ _ _ us hl => match us, hl with | [_, _], _ => rfl) left_no) (by omega)
  | 0, .mixed => Met.mono' (T.m_Mixed_left.void (ps := ["self", "forms"]) (fun _ _ _ _ _ _ us hl => match us, hl with | [_, _], _ => rfl) left_no) (by omega)
  | m + 1, k => by
    have ih := ok_left T n m
    cases k with
    | one => exact ok_OneLeft T (show 3 ≤ 2 * n + 4 + m by omega)
    | chain => exact ok_ChainLeft T ih
    | choice => exact ok_ChoiceLeft T ih
    | times => exact ok_TimesLeft T ih
    | mixed => exact ok_MixedLeft T ih
end
end KG
end
section
set_option Elab.async false
set_option linter.all false
set_option autoImplicit false
set_option maxRecDepth 100000
set_option maxHeartbeats 4000000
/-! ## speaks -/
namespace KG
open PySem PySem.Spec PyProof.Rows L2 KM
open C8 (Cal Met Mak pe_c pe_mk pe_mt pe_mt0)
/-! the forms of a pattern -/
mutual
def fm : Pat → List Str
  | .one f => [f]
  | .chain ps => fms ps
  | .choice ps => fms ps
  | .times p _ _ => fm p
  | .mixed ps => fms ps
def fms : List Pat → List Str
  | [] => []
  | p :: ps => fm p ++ fms ps
end
theorem fms_append (ps qs : List Pat) : fms (ps ++ qs) = fms ps ++ fms qs := by
  induction ps with
  | nil => rw [fms]; rfl
  | cons p ps ih => rw [List.cons_append, fms, fms, ih, List.append_assoc]
def KeysAt (kvs : List (Key × V)) (gs : List Str) : Prop := ∃ ks : List Str, kvs.map (·.1) = ks.map Sum.inr ∧ ks.length ≤ gs.length ∧ ∀ f ∈ ks, f ∈ gs
theorem keys_put {kvs : List (Key × V)} {gs gs' : List Str} {x : Str} {v : V} (h : KeysAt kvs gs) (hl : gs.length + 1 ≤ gs'.length) (hx : x ∈ gs') (hs : ∀ f ∈ gs, f ∈ gs') : KeysAt (putK kvs (Sum.inr x) v) gs' := by
  obtain ⟨ks, e, l, m⟩ := h
  unfold putK
  split
  · refine ⟨ks, ?_, by omega, fun f hf => hs f (m f hf)⟩
    rw [← e, List.map_map]
    refine List.map_congr_left fun kv hkv => ?_
    show (if kv.1 = Sum.inr x then (kv.1, v) else kv).1 = kv.1
    split <;> rfl
  · refine ⟨ks ++ [x], ?_, by rw [List.length_append]; simp; omega, fun f hf => ?_⟩
    · rw [List.map_append, e, List.map_append]; rfl
    · rcases List.mem_append.mp hf with hf | hf
      · exact hs f (m f hf)
      · rw [List.mem_singleton.mp hf]; exact hx
theorem KeysAt.mono {kvs : List (Key × V)} {gs gs' : List Str} (h : KeysAt kvs gs) (hl : gs.length ≤ gs'.length) (hs : ∀ f ∈ gs, f ∈ gs') : KeysAt kvs gs' := by
  obtain ⟨ks, e, l, m⟩ := h
  exact ⟨ks, e, by omega, fun f hf => hs f (m f hf)⟩
def spSpk (N : Nm) (m : Nat) (k : Kd) : Sp := sp1 fun v H Q => ∃ a p, v = .ref a ∧ kdOf p = k ∧ PatAt N H p a ∧ dp p ≤ m ∧ (fm p).length ≤ 60 ∧ ∀ l H' (fs : List Str), Same H H' → H' l = some (.lst (fs.map V.str)) → (∀ f ∈ fs, f ∈ fm p) → fs.length ≤ (fm p).length → Q (.ref l) H'
def spSpks (N : Nm) (m : Nat) : Sp := sp1 fun v H Q => ∃ t as ps, v = .ref t ∧ H t = some (.tup (as.map V.ref)) ∧ PatsAt N H ps as ∧ dps ps ≤ m ∧ (fms ps).length ≤ 60 ∧ ∀ l H' (fs : List Str), Same H H' → H' l = some (.lst (fs.map V.str)) → (∀ f ∈ fs, f ∈ fms ps) → fs.length ≤ (fms ps).length → Q (.ref l) H'
section
variable {P : Program} {w : World} {K : PySem.W.Frag} {mg : Str → Option Value} {base : Heap} {N : Nm}
theorem scSpoken : FnScope ["parts", "known", "part", "form"] ["parts"] (defScope sAllSpoken) := ⟨rfl, rfl, rfl, by decide +kernel, rfl, by decide +kernel, by decide +kernel⟩
theorem ok_spoken {m j : Nat} (T : Tx K mg N) (M : ∀ k, Met P w K mg base j (N.c k) "speaks" (spSpk N m k) []) : Cal P w K mg base (j + 1) "all_spoken" (spSpks N m) [] := by
  refine T.d_all_spoken.cal scSpoken (fun _ _ _ _ _ _ us hl => match us, hl with | [_], _ => rfl) len1 (fun f cdv A outer s H vs Q E hr h => ?_)
  obtain ⟨_, rfl, t, as, ps, rfl, ht, hp, hd, hl, k⟩ := h
  have hu := hu_of hr
  refine ⟨_, pss_cons (ps_set (i := 1) scSpoken.nd rfl (Or.inl rfl) pe_dnewK)
    (pss_cons (ps_for PassesOwn.never rfl (pi_tup (pv 0)) (pg_name (i := 2) scSpoken.nd rfl (Or.inl rfl))
      (pss_one (ps_for PassesOwn.never rfl (pi_list (KR.pe_meth0D (pv 2) (fun i => met_md (M i)) hr (Nat.le_refl _))) (pg_name (i := 3) scSpoken.nd rfl (Or.inl rfl))
        (pss_one (ps_dput hu (pv 1) (pv 3) pe_bl rfl)))))
      (pss_one (ps_ret (pe_callB (call_sortedD rfl) (by rfl) T.z_sorted (by decide +kernel) (pa_cons (pv 1) pa_nil))))), ?_⟩
  intro d hd0
  have hln := pats_len hp
  have s0 := same_new hd0 (.dK [])
  refine ⟨_, rfl, t, rfl, ⟨_, SqT.of (s0 _ _ ht)⟩, for_tup (xs := as.map V.ref) (fun i σ H' => ∃ u1 u2, σ = [some (.ref t), some (.ref d), u1, u2] ∧ Same H H' ∧ ∃ kvs, H' d = some (.dK kvs) ∧ KeysAt kvs (fms (ps.take i))) ?_ ?_ ?_ ?_⟩
  · exact ⟨none, none, rfl, s0, [], upd_same, [], rfl, Nat.zero_le _, fun f hf => by cases hf⟩
  · rintro i σ H' hi ⟨u1, u2, rfl, s', _⟩
    exact SqT.of (s' _ _ ht)
  · rintro i x σ H' hx ⟨u1, u2, rfl, s', kvs, hdd, hk⟩
    have hi : i < as.length := by have := (List.getElem?_eq_some_iff.mp hx).1; rw [List.length_map] at this; exact this
    obtain ⟨a, p, e1, e2, e3, e4⟩ := pats_at hp hi hx
    subst e1
    have e5 := e4.fz (fz_same s')
    have hm : p ∈ ps := List.mem_of_getElem? e3
    have hpd := dps_mem hm
    obtain ⟨dx, fs, i1, _, _, _, i5⟩ := pat_ins e5
    have e6 : fms (ps.take (i + 1)) = fms (ps.take i) ++ fm p := by
      rw [take_snoc e3, fms_append, fms, fms, List.append_nil]
    have hl2 : (fms (ps.take (i + 1))).length ≤ 60 := by
      have e7 := congrArg (fun z => (fms z).length) (List.take_append_drop (i + 1) ps)
      simp only [fms_append, List.length_append] at e7
      omega
    have hl3 := hl2
    rw [e6, List.length_append] at hl3
    refine ⟨_, rfl, kdOf p, a, dx, fs, rfl, i1, i5, _, rfl, a, p, rfl, rfl, e5, by omega, by omega, fun l H2 gs s2 hll hgs hgl => ?_⟩
    have sH2 := s'.trans s2
    refine ⟨l, rfl, ⟨_, SqL.of hll⟩, for_list (xs := gs.map V.str) (fun j σ H3 => ∃ u2, σ = [some (.ref t), some (.ref d), some (.ref a), u2] ∧ Same H H3 ∧ H3 l = some (.lst (gs.map V.str)) ∧ ∃ kvs, H3 d = some (.dK kvs) ∧ KeysAt kvs (fms (ps.take i) ++ gs.take j)) ?_ ?_ ?_ ?_⟩
    · exact ⟨_, rfl, sH2, hll, kvs, s2 _ _ hdd, by rw [List.take_zero, List.append_nil]; exact hk⟩
    · rintro j σ H3 hj ⟨u2, rfl, s3, hl3, _⟩
      exact SqL.of hl3
    · rintro j y σ H3 hy ⟨u2, rfl, s3, hl4, kvs2, hdd2, hk2⟩
      rw [List.getElem?_map] at hy
      obtain ⟨y', hy1, hy2⟩ := Option.map_eq_some_iff.mp hy
      subst hy2
      have dl : d ≠ l := ne_of hdd2 hl4 (fun z => nomatch z)
      obtain ⟨ks, q1, q2, q3⟩ := id hk2
      have q4 : kvs2.length = ks.length := by have := congrArg List.length q1; rw [List.length_map, List.length_map] at this; exact this
      have q5 : (gs.take j).length ≤ gs.length := by rw [List.length_take]; omega
      rw [List.length_append] at q2
      refine ⟨_, rfl, _, rfl, d, _, rfl, DPut.k (k := Sum.inr y') hdd2 (by rw [sizeLine_eq]; omega), ?_⟩
      refine ⟨_, rfl, fun b o e => by rw [upd_ne (ne_of_none e hd0)]; exact s3 _ _ e, by rw [upd_ne (Ne.symm dl)]; exact hl4, _, upd_same, ?_⟩
      rw [take_snoc hy1, ← List.append_assoc]
      exact keys_put hk2 (by rw [List.length_append (bs := [y'])]; exact Nat.le_refl _) (List.mem_append_right _ (List.mem_singleton.mpr rfl)) (fun f hf => List.mem_append_left _ hf)
    · rintro σ H3 ⟨u2, rfl, s3, hl4, kvs2, hdd2, hk2⟩
      rw [List.length_map, List.take_length] at hk2
      refine ⟨_, _, rfl, s3, kvs2, hdd2, ?_⟩
      rw [e6]
      refine hk2.mono (by rw [List.length_append, List.length_append]; omega) fun f hf => ?_
      rcases List.mem_append.mp hf with hf | hf
      · exact List.mem_append_left _ hf
      · exact List.mem_append_right _ (hgs f hf)
  · rintro σ H' ⟨u1, u2, rfl, s', kvs, hdd, ks, q1, q2, q3⟩
    rw [List.length_map, hln, List.take_length] at q2 q3
    refine ⟨_, rfl, d, kvs, ks, rfl, .inl hdd, q1, by omega, fun ys p pm _ hp0 => ?_⟩
    exact k p _ ys (s'.trans (same_new hp0 _)) upd_same (fun f hf => q3 f (pm.mem_iff.mp hf)) (by rw [pm.length_eq]; omega)
theorem scOneSpeaks : FnScope ["self"] ["self"] (defScope sOneSpeaks) := ⟨rfl, rfl, rfl, by decide +kernel, rfl, by decide +kernel, by decide +kernel⟩
theorem ok_OneSpeaks {m j : Nat} (T : Tx K mg N) : Met P w K mg base (j + 1) (N.c .one) "speaks" (spSpk N m .one) [] := by
  refine T.m_One_speaks.met scOneSpeaks (fun _ _ _ _ _ _ us hl => match us, hl with | [_], _ => rfl) len1 (fun f cdv A outer s H vs Q E hr h => ?_)
  obtain ⟨_, rfl, a, p, rfl, hk, hp, hd, hl, k⟩ := h
  cases p with
  | one x =>
    rw [PatAt] at hp
    obtain ⟨dx, ea⟩ := hp
    refine ⟨_, pss_one (ps_ret (pe_lst (pa_cons (pe_fld (pv 0) rfl) pa_nil))), ?_⟩
    refine ⟨_, rfl, a, _, dx, _, _, rfl, ea, T.cl_One, T.na_One_form, look0, (by show 1 ≤ sizeLine; decide), fun z hz0 => ?_⟩
    exact k z _ [x] (same_new hz0 _) upd_same (fun f hf => by rw [fm]; exact hf) (by rw [fm]; exact Nat.le_refl _)
  | _ => cases hk
theorem scTimesSpeaks : FnScope ["self"] ["self"] (defScope sTimesSpeaks) := ⟨rfl, rfl, rfl, by decide +kernel, rfl, by decide +kernel, by decide +kernel⟩
theorem ok_TimesSpeaks {m j : Nat} (T : Tx K mg N) (M : ∀ k, Met P w K mg base j (N.c k) "speaks" (spSpk N m k) []) : Met P w K mg base (j + 1) (N.c .times) "speaks" (spSpk N (m + 1) .times) [] := by
  refine T.m_Times_speaks.met scTimesSpeaks (fun _ _ _ _ _ _ us hl => match us, hl with | [_], _ => rfl) len1 (fun f cdv A outer s H vs Q E hr h => ?_)
  obtain ⟨_, rfl, a, p, rfl, hk, hp, hd, hl, k⟩ := h
  cases p with
  | times p lo hi =>
    rw [dp] at hd
    rw [fm] at hl k
    rw [PatAt] at hp
    obtain ⟨dx, b, ea, hb⟩ := hp
    obtain ⟨dx2, fs2, i1, _, _, _, i5⟩ := pat_ins hb
    refine ⟨_, pss_one (ps_ret (KR.pe_meth0D (pe_fld (pv 0) rfl) (fun i => met_md (M i)) hr (Nat.le_refl _))), ?_⟩
    exact ⟨_, rfl, a, _, dx, _, _, rfl, ea, T.cl_Times, T.na_Times_part, fsT_part, kdOf p, b, dx2, fs2, rfl, i1, i5, _, rfl, b, p, rfl, rfl, hb, by omega, hl, k⟩
  | _ => cases hk
theorem scChainSpeaks : FnScope ["self"] ["self"] (defScope sChainSpeaks) := ⟨rfl, rfl, rfl, by decide +kernel, rfl, by decide +kernel, by decide +kernel⟩
theorem ok_ChainSpeaks {m j : Nat} (T : Tx K mg N) (C : Cal P w K mg base j "all_spoken" (spSpks N m) []) : Met P w K mg base (j + 1) (N.c .chain) "speaks" (spSpk N (m + 1) .chain) [] := by
  refine T.m_Chain_speaks.met scChainSpeaks (fun _ _ _ _ _ _ us hl => match us, hl with | [_], _ => rfl) len1 (fun f cdv A outer s H vs Q E hr h => ?_)
  obtain ⟨_, rfl, a, p, rfl, hk, hp, hd, hl, k⟩ := h
  cases p with
  | chain ps =>
    rw [dp] at hd
    rw [fm] at hl k
    rw [PatAt] at hp
    obtain ⟨dx, t, bs, ea, et, hps⟩ := hp
    refine ⟨_, pss_one (ps_ret (pe_c C hr (Nat.le_refl _) rfl (pa_cons (pe_fld (pv 0) rfl) pa_nil))), ?_⟩
    exact ⟨_, rfl, a, _, dx, _, _, rfl, ea, T.cl_Chain, T.na_Chain_parts, look0, _, rfl, t, bs, ps, rfl, et, hps, by omega, hl, k⟩
  | _ => cases hk
theorem scChoiceSpeaks : FnScope ["self"] ["self"] (defScope sChoiceSpeaks) := ⟨rfl, rfl, rfl, by decide +kernel, rfl, by decide +kernel, by decide +kernel⟩
theorem ok_ChoiceSpeaks {m j : Nat} (T : Tx K mg N) (C : Cal P w K mg base j "all_spoken" (spSpks N m) []) : Met P w K mg base (j + 1) (N.c .choice) "speaks" (spSpk N (m + 1) .choice) [] := by
  refine T.m_Choice_speaks.met scChoiceSpeaks (fun _ _ _ _ _ _ us hl => match us, hl with | [_], _ => rfl) len1 (fun f cdv A outer s H vs Q E hr h => ?_)
  obtain ⟨_, rfl, a, p, rfl, hk, hp, hd, hl, k⟩ := h
  cases p with
  | choice ps =>
    rw [dp] at hd
    rw [fm] at hl k
    rw [PatAt] at hp
    obtain ⟨dx, t, bs, ea, et, hps⟩ := hp
    refine ⟨_, pss_one (ps_ret (pe_c C hr (Nat.le_refl _) rfl (pa_cons (pe_fld (pv 0) rfl) pa_nil))), ?_⟩
    exact ⟨_, rfl, a, _, dx, _, _, rfl, ea, T.cl_Choice, T.na_Choice_parts, look0, _, rfl, t, bs, ps, rfl, et, hps, by omega, hl, k⟩
  | _ => cases hk
theorem scMixedSpeaks : FnScope ["self"] ["self"] (defScope sMixedSpeaks) := ⟨rfl, rfl, rfl, by decide +kernel, rfl, by decide +kernel, by decide +kernel⟩
theorem ok_MixedSpeaks {m j : Nat} (T : Tx K mg N) (C : Cal P w K mg base j "all_spoken" (spSpks N m) []) : Met P w K mg base (j + 1) (N.c .mixed) "speaks" (spSpk N (m + 1) .mixed) [] := by
  refine T.m_Mixed_speaks.met scMixedSpeaks (fun _ _ _ _ _ _ us hl => match us, hl with | [_], _ => rfl) len1 (fun f cdv A outer s H vs Q E hr h => ?_)
  obtain ⟨_, rfl, a, p, rfl, hk, hp, hd, hl, k⟩ := h
  cases p with
  | mixed ps =>
    rw [dp] at hd
    rw [fm] at hl k
    rw [PatAt] at hp
    obtain ⟨dx, t, bs, ea, et, hps⟩ := hp
    refine ⟨_, pss_one (ps_ret (pe_c C hr (Nat.le_refl _) rfl (pa_cons (pe_fld (pv 0) rfl) pa_nil))), ?_⟩
    exact ⟨_, rfl, a, _, dx, _, _, rfl, ea, T.cl_Mixed, T.na_Mixed_parts, look0, _, rfl, t, bs, ps, rfl, et, hps, by omega, hl, k⟩
  | _ => cases hk
theorem spk_no {k : Kd} : ∀ vs H Q E, ¬ spSpk N 0 k vs H Q E := fun vs H Q E ⟨_, _, _, p, _, _, _, h, _⟩ => by
  have := dp_pos p
  omega
theorem ok_speaks (T : Tx K mg N) : ∀ (n : Nat) (k : Kd), Met P w K mg base (2 * n) (N.c k) "speaks" (spSpk N n k) []
  | 0, .one => T.m_One_speaks.void (ps := ["self"]) (fun _ _ _ _ _ _ us hl => match us, hl with | [_], _ => rfl) spk_no
  | 0, .chain => T.m_Chain_speaks.void (ps := ["self"]) (fun _ _ _ _ _ _ us hl => match us, hl with | [_], _ => rfl) spk_no
  | 0, .choice => T.m_Choice_speaks.void (ps := ["self"]) (fun _ _ _ _ _ _ us hl => match us, hl with | [_], _ => rfl) spk_no
  | 0, .times => T.m_Times_speaks.void (ps := ["self"]) (fun _ _ _ _ _ _ us hl => match us, hl with | [_], _ => rfl) spk_no
  | 0, .mixed => T.m_Mixed_speaks.void (ps := ["self"]) (fun _ _ _ _ _ _ us hl => match us, hl with | [_], _ => rfl) spk_no
  | n + 1, k => by
    have ih := ok_speaks T n
    have C := ok_spoken T ih
    cases k with
    | one => exact ok_OneSpeaks T
    | chain => exact ok_ChainSpeaks T C
    | choice => exact ok_ChoiceSpeaks T C
    | times => exact Met.mono' (ok_TimesSpeaks T ih) (by omega)
    | mixed => exact ok_MixedSpeaks T C
end
end KG
end
section
set_option Elab.async false
set_option linter.all false
set_option autoImplicit false
set_option maxRecDepth 100000
set_option maxHeartbeats 4000000
/-! ## The grower: what stands in its tables -/
namespace KG
open PySem PySem.Spec PyProof.Rows L2 KM
open C8 (Cal Met Mak pe_c pe_mk pe_mt pe_mt0)
open KN (NKey NDict KeyAt ND NEnt)
/-- a rule: its form, its name, its pattern -/
abbrev Rl := Str × Str × Pat
/-- for each rule the patterns that are left -/
abbrev AS := List (List Pat)
def RuleAt (N : Nm) (H : Hp) (r : Rl) (a : Addr) : Prop := ∃ b, H a = some (.tup [.str r.1, .str r.2.1, .ref b]) ∧ PatAt N H r.2.2 b
def RulesAt (N : Nm) (H : Hp) (R : List Rl) (rs : List Addr) : Prop := rs.length = R.length ∧ ∀ (i : Nat) (r : Rl) (a : Addr), R[i]? = some r → rs[i]? = some a → RuleAt N H r a
theorem RuleAt.fz {N : Nm} {H H' : Hp} {r : Rl} {a : Addr} (h : RuleAt N H r a) (z : Fz H H') : RuleAt N H' r a := by
  obtain ⟨b, e, p⟩ := h
  exact ⟨b, z _ _ True.intro e, p.fz z⟩
theorem RulesAt.fz {N : Nm} {H H' : Hp} {R : List Rl} {rs : List Addr} (h : RulesAt N H R rs) (z : Fz H H') : RulesAt N H' R rs := ⟨h.1, fun i r a e1 e2 => (h.2 i r a e1 e2).fz z⟩
def RulesOk (R : List Rl) : Prop := R.length ≤ 8 ∧ ∀ r ∈ R, Cn r.2.2 ∧ eD r.2.2 ≤ 1000 ∧ fD r.2.2 ≤ 12 ∧ W r.2.2 ≤ 4000
/-- all patterns that can come up -/
noncomputable def DD (R : List Rl) : List Pat := R.flatMap fun r => D r.2.2
theorem dd_len {R : List Rl} (h : RulesOk R) : (DD R).length ≤ 32000 := by
  have key : ∀ Q : List Rl, (∀ r ∈ Q, W r.2.2 ≤ 4000) → (DD Q).length ≤ Q.length * 4000 := fun Q hq => by
    induction Q with
    | nil => simp [DD]
    | cons r Q ih =>
      have h1 := hq r List.mem_cons_self
      have h2 := ih fun x hx => hq x (List.mem_cons_of_mem _ hx)
      have h3 := D_len r.2.2
      show (D r.2.2 ++ DD Q).length ≤ _
      rw [List.length_append, List.length_cons]
      omega
  have := key R fun r hr => (h.2 r hr).2.2.2
  have := h.1
  omega
theorem dd_ok {R : List Rl} (h : RulesOk R) {p : Pat} (hp : p ∈ DD R) : Cn p ∧ sz p ≤ 1000 ∧ sD p ≤ 1000 ∧ dD p ≤ 12 ∧ dp p ≤ 12 := by
  obtain ⟨r, hr, hd⟩ := List.mem_flatMap.mp hp
  obtain ⟨a, b, c, _⟩ := h.2 r hr
  obtain ⟨h1, h2, h3⟩ := bnd2 r.2.2
  obtain ⟨x, y⟩ := h3 p hd
  obtain ⟨z1, z2, _⟩ := bnd p
  exact ⟨(closed _ a).2.1 p hd, by omega, by omega, by omega, by omega⟩
theorem dd_sm {R : List Rl} (h : RulesOk R) {p : Pat} (hp : p ∈ DD R) : Sm p := ⟨(dd_ok h hp).1, (dd_ok h hp).2.1⟩
/-- a component of a state -/
def VQ (R : List Rl) (qs : List Pat) : Prop := qs.Nodup ∧ ∃ r ∈ R, ∀ q ∈ qs, q ∈ D r.2.2
theorem VQ.dd {R : List Rl} {qs : List Pat} (h : VQ R qs) : ∀ q ∈ qs, q ∈ DD R := fun q hq => by
  obtain ⟨_, r, hr, k⟩ := h
  exact List.mem_flatMap.mpr ⟨r, hr, k q hq⟩
theorem VQ.len {R : List Rl} (ok : RulesOk R) {qs : List Pat} (h : VQ R qs) : qs.length ≤ 4000 := by
  obtain ⟨n, r, hr, k⟩ := h
  have := state_len n k
  have := (ok.2 r hr).2.2.2
  omega
def Good (R : List Rl) (σ : AS) : Prop := σ.length = R.length ∧ ∀ (i : Nat) (r : Rl) (qs : List Pat), R[i]? = some r → σ[i]? = some qs → qs.Nodup ∧ ∀ q ∈ qs, q ∈ D r.2.2
theorem Good.vq {R : List Rl} {σ : AS} (h : Good R σ) : ∀ qs ∈ σ, VQ R qs := fun qs hq => by
  obtain ⟨i, hi⟩ := List.getElem?_of_mem hq
  have hl : i < R.length := by
    have := (List.getElem?_eq_some_iff.mp hi).1
    rw [h.1] at this
    exact this
  obtain ⟨a, b⟩ := h.2 i _ qs (List.getElem?_eq_getElem hl) hi
  exact ⟨a, _, List.getElem_mem hl, b⟩
def pens (qs : List Pat) : List Str := qs.map penS
def keyOf (σ : AS) : NKey := σ.map pens
def StepRel (fs : List Str) (qs qs' : List Pat) : Prop := ∀ x, x ∈ qs' ↔ ∃ q ∈ qs, x ∈ left fs q
def formsOf (R : List Rl) (σ : AS) : List Str := ((R.zip σ).filter fun x => x.2.any bare).map fun x => x.1.1
theorem pens_inj {qs rs : List Pat} (h1 : ∀ q ∈ qs, Cn q) (h2 : ∀ q ∈ rs, Cn q) (e : pens qs = pens rs) : qs = rs := by
  induction qs generalizing rs with
  | nil =>
    cases rs with
    | nil => rfl
    | cons r rs => cases e
  | cons q qs ih =>
    cases rs with
    | nil => cases e
    | cons r rs =>
      have e2 : penS q :: pens qs = penS r :: pens rs := e
      injection e2 with e3 e4
      rw [penS_inj (h1 q List.mem_cons_self) (h2 r List.mem_cons_self) e3, ih (fun x hx => h1 x (List.mem_cons_of_mem _ hx)) (fun x hx => h2 x (List.mem_cons_of_mem _ hx)) e4]
theorem key_inj {R : List Rl} (ok : RulesOk R) {σ τ : AS} (h1 : Good R σ) (h2 : Good R τ) (e : keyOf σ = keyOf τ) : σ = τ := by
  have a : ∀ qs ∈ σ, ∀ q ∈ qs, Cn q := fun qs hq q hq2 => (dd_ok ok ((h1.vq qs hq).dd q hq2)).1
  have b : ∀ qs ∈ τ, ∀ q ∈ qs, Cn q := fun qs hq q hq2 => (dd_ok ok ((h2.vq qs hq).dd q hq2)).1
  clear h1 h2
  induction σ generalizing τ with
  | nil =>
    cases τ with
    | nil => rfl
    | cons t τ => cases e
  | cons s σ ih =>
    cases τ with
    | nil => cases e
    | cons t τ =>
      have e2 : pens s :: keyOf σ = pens t :: keyOf τ := e
      injection e2 with e3 e4
      rw [pens_inj (a s List.mem_cons_self) (b t List.mem_cons_self) e3, ih e4 (fun x hx => a x (List.mem_cons_of_mem _ hx)) (fun x hx => b x (List.mem_cons_of_mem _ hx))]
/-! ### keys under changes of the heap -/
theorem key_fz {H H' : Hp} {k : NKey} {a : Addr} (h : KeyAt H k a) (z : Fz H H') : KeyAt H' k a := by
  obtain ⟨bs, e1, e2⟩ := h
  exact ⟨bs, z _ _ True.intro e1, Paired.mapP e2 fun ks b e => z _ _ True.intro e⟩
theorem nd_keep {P : Program} {w : World} {H H' : Hp} {a : Addr} {kvs : List (NKey × V)} (h : NDict P w H a kvs) (e : H' a = H a) (z : Fz H H') : NDict P w H' a kvs := by
  obtain ⟨es, e1, e2, e3⟩ := h
  exact ⟨es, by rw [e]; exact e1, fun x hx => key_fz (e2 x hx) z, e3⟩
/-! ### the grower's objects -/
structure GAd where
  S : Addr
  dx : Addr
  dn : Addr
  ls : Addr
  tr : Addr
  dp : Addr
  db : Addr
  df : Addr
def gfs (G : GAd) : List (Str × V) := putF "formed" (.ref G.df) (putF "behind" (.ref G.db) (putF "patterns" (.ref G.dp) (putF "rules" (.ref G.tr) (putF "states" (.ref G.ls) (putF "numbers" (.ref G.dn) [])))))
theorem gfs_look (G : GAd) : (gfs G).lookup ("numbers" : Str) = some (.ref G.dn) ∧ (gfs G).lookup ("states" : Str) = some (.ref G.ls) ∧ (gfs G).lookup ("rules" : Str) = some (.ref G.tr) ∧ (gfs G).lookup ("patterns" : Str) = some (.ref G.dp) ∧ (gfs G).lookup ("behind" : Str) = some (.ref G.db) ∧ (gfs G).lookup ("formed" : Str) = some (.ref G.df) := by
  unfold gfs
  simp only [lookup_putF]
  refine ⟨?_, ?_, ?_, ?_, ?_, ?_⟩
  · rw [if_neg (by decide +kernel), if_neg (by decide +kernel), if_neg (by decide +kernel), if_neg (by decide +kernel), if_neg (by decide +kernel), if_pos True.intro]
  · rw [if_neg (by decide +kernel), if_neg (by decide +kernel), if_neg (by decide +kernel), if_neg (by decide +kernel), if_pos True.intro]
  · rw [if_neg (by decide +kernel), if_neg (by decide +kernel), if_neg (by decide +kernel), if_pos True.intro]
  · rw [if_neg (by decide +kernel), if_neg (by decide +kernel), if_pos True.intro]
  · rw [if_neg (by decide +kernel), if_pos True.intro]
  · rw [if_pos True.intro]
theorem gfs_none (G : GAd) {m : Str} (h1 : ¬ m = "formed") (h2 : ¬ m = "behind") (h3 : ¬ m = "patterns") (h4 : ¬ m = "rules") (h5 : ¬ m = "states") (h6 : ¬ m = "numbers") : (gfs G).lookup m = none := by
  unfold gfs
  rw [lookup_putF, if_neg h1, lookup_putF, if_neg h2, lookup_putF, if_neg h3, lookup_putF, if_neg h4, lookup_putF, if_neg h5, lookup_putF, if_neg h6]
  rfl
def own (G : GAd) (b : Addr) : Prop := b = G.dn ∨ b = G.ls ∨ b = G.dp ∨ b = G.db ∨ b = G.df
def Bt (G : GAd) (H H' : Hp) : Prop := ∀ b o, ¬ own G b → H b = some o → H' b = some o
theorem Bt.refl (G : GAd) (H : Hp) : Bt G H H := fun _ _ _ h => h
theorem Bt.trans {G : GAd} {H H1 H2 : Hp} (a : Bt G H H1) (b : Bt G H1 H2) : Bt G H H2 := fun c o n e => b c o n (a c o n e)
theorem bt_same {G : GAd} {H H' : Hp} (s : Same H H') : Bt G H H' := fun b o _ e => s b o e
theorem bt_but {G : GAd} {H H' : Hp} {t : Addr} (h : own G t) (s : But t H H') : Bt G H H' := fun b o n e => s b o (fun z => n (by rw [z]; exact h)) e
/-- what stands where -/
structure Ct where
  as : List Addr
  nk : List (NKey × V)
  pk : List (Key × V)
  bk : List (NKey × V)
  fk : List (NKey × V)
structure Shape (P : Program) (w : World) (N : Nm) (G : GAd) (R : List Rl) (C : Ct) (H : Hp) : Prop where
  self : H G.S = some (.ins N.grow G.dx (gfs G))
  rules : ∃ rs : List Addr, H G.tr = some (.tup (rs.map V.ref)) ∧ RulesAt N H R rs
  nd : NDict P w H G.dn C.nk
  st : H G.ls = some (.lst (C.as.map V.ref))
  pt : H G.dp = some (.dK C.pk)
  bd : NDict P w H G.db C.bk
  fd : NDict P w H G.df C.fk
  n1 : G.dn ≠ G.db
  n2 : G.dn ≠ G.df
  n3 : G.db ≠ G.df
structure Valid (N : Nm) (R : List Rl) (C : Ct) (c : Nat) (SS : List AS) (KQ : List (List Pat)) (H : Hp) : Prop where
  len : C.as.length = SS.length
  few : SS.length ≤ 64
  key : ∀ (i : Nat) (σ : AS) (a : Addr), SS[i]? = some σ → C.as[i]? = some a → KeyAt H (keyOf σ) a
  good : ∀ σ ∈ SS, Good R σ ∧ ∀ qs ∈ σ, qs ∈ KQ
  kq : ∀ qs ∈ KQ, VQ R qs ∧ ∀ q ∈ qs, (valV C.pk (Sum.inr (penS q))).isSome = true
  nkl : C.nk.length ≤ SS.length
  nkv : ∀ κ v, valV C.nk κ = some v → ∃ (i : Nat) (σ : AS), SS[i]? = some σ ∧ keyOf σ = κ ∧ v = .int i
  pkn : (C.pk.map (·.1)).Nodup
  pkv : ∀ kv ∈ C.pk, ∃ p a, kv.1 = Sum.inr (penS p) ∧ kv.2 = .ref a ∧ PatAt N H p a ∧ p ∈ DD R
  bkl : C.bk.length ≤ c
  bkv : ∀ κ v, valV C.bk κ = some v → ∃ (qs : List Pat) (fs : List Str) (qs' : List Pat) (t : Addr), κ = [pens qs, fs] ∧ VQ R qs ∧ v = .ref t ∧ H t = some (.tup ((pens qs').map V.str)) ∧ StepRel fs qs qs' ∧ qs' ∈ KQ
  fkl : C.fk.length ≤ c
  fkv : ∀ κ v, valV C.fk κ = some v → ∃ (σ : AS) (t : Addr), κ = keyOf σ ∧ Good R σ ∧ v = .ref t ∧ H t = some (.tup ((formsOf R σ).map V.str))
def GI (P : Program) (w : World) (N : Nm) (G : GAd) (R : List Rl) (c : Nat) (SS : List AS) (KQ : List (List Pat)) (H : Hp) : Prop := ∃ C, Shape P w N G R C H ∧ Valid N R C c SS KQ H
section
variable {P : Program} {w : World} {N : Nm} {G : GAd} {R : List Rl} {C : Ct} {c : Nat} {SS : List AS} {KQ : List (List Pat)} {H H' : Hp}
theorem Valid.fz (h : Valid N R C c SS KQ H) (z : Fz H H') : Valid N R C c SS KQ H' :=
  ⟨h.len, h.few, fun i σ a e1 e2 => key_fz (h.key i σ a e1 e2) z, h.good, h.kq, h.nkl, h.nkv, h.pkn, fun kv hk => by
    obtain ⟨p, a, e1, e2, e3, e4⟩ := h.pkv kv hk
    exact ⟨p, a, e1, e2, e3.fz z, e4⟩, h.bkl, fun κ v e => by
    obtain ⟨qs, fs, qs', t, e1, e2, e3, e4, e5⟩ := h.bkv κ v e
    exact ⟨qs, fs, qs', t, e1, e2, e3, z _ _ True.intro e4, e5⟩, h.fkl, fun κ v e => by
    obtain ⟨σ, t, e1, e2, e3, e4⟩ := h.fkv κ v e
    exact ⟨σ, t, e1, e2, e3, z _ _ True.intro e4⟩⟩
theorem Shape.keep (h : Shape P w N G R C H) (z : Fz H H') (k : ∀ b, own G b → H' b = H b) : Shape P w N G R C H' := by
  obtain ⟨rs, e1, e2⟩ := h.rules
  exact ⟨z _ _ True.intro h.self, ⟨rs, z _ _ True.intro e1, e2.fz z⟩, nd_keep h.nd (k _ (.inl rfl)) z, by rw [k _ (.inr (.inl rfl))]; exact h.st, by rw [k _ (.inr (.inr (.inl rfl)))]; exact h.pt,
    nd_keep h.bd (k _ (.inr (.inr (.inr (.inl rfl))))) z, nd_keep h.fd (k _ (.inr (.inr (.inr (.inr rfl))))) z, h.n1, h.n2, h.n3⟩
theorem nd_some {a : Addr} {kvs : List (NKey × V)} (h : NDict P w H a kvs) : ∃ es, H a = some (ND P w a es) := by
  obtain ⟨es, e, _⟩ := h
  exact ⟨es, e⟩
theorem Shape.there (h : Shape P w N G R C H) {b : Addr} (o : own G b) : ∃ u, H b = some u ∧ ¬ isFz u := by
  rcases o with e | e | e | e | e <;> subst e
  · obtain ⟨es, e⟩ := nd_some h.nd
    exact ⟨_, e, fun z => z⟩
  · exact ⟨_, h.st, fun z => z⟩
  · exact ⟨_, h.pt, fun z => z⟩
  · obtain ⟨es, e⟩ := nd_some h.bd
    exact ⟨_, e, fun z => z⟩
  · obtain ⟨es, e⟩ := nd_some h.fd
    exact ⟨_, e, fun z => z⟩
theorem Shape.notown (h : Shape P w N G R C H) {b : Addr} (e : H b = none) : ¬ own G b := fun o => by
  obtain ⟨u, z, _⟩ := h.there o
  rw [e] at z
  cases z
theorem Shape.btfz (h : Shape P w N G R C H) (b : Bt G H H') : Fz H H' := fun x o z e => b x o (fun w => by
  obtain ⟨u, e2, n⟩ := h.there w
  rw [e] at e2
  cases e2
  exact n z) e
theorem GI.same (h : GI P w N G R c SS KQ H) (s : Same H H') : GI P w N G R c SS KQ H' := by
  obtain ⟨C, a, b⟩ := h
  exact ⟨C, a.keep (fz_same s) (fun x o => by
    obtain ⟨u, e, _⟩ := a.there o
    rw [e, s _ _ e]), b.fz (fz_same s)⟩
theorem GI.keep (h : GI P w N G R c SS KQ H) (z : Fz H H') (k : ∀ b, own G b → H' b = H b) : GI P w N G R c SS KQ H' := by
  obtain ⟨C, a, b⟩ := h
  exact ⟨C, a.keep z k, b.fz z⟩
theorem GI.notown (h : GI P w N G R c SS KQ H) {b : Addr} (e : H b = none) : ¬ own G b := by
  obtain ⟨C, a, _⟩ := h
  exact a.notown e
theorem GI.btfz (h : GI P w N G R c SS KQ H) (b : Bt G H H') : Fz H H' := by
  obtain ⟨C, a, _⟩ := h
  exact a.btfz b
theorem GI.more (h : GI P w N G R c SS KQ H) {d : Nat} (l : c ≤ d) : GI P w N G R d SS KQ H := by
  obtain ⟨C, a, b⟩ := h
  exact ⟨C, a, ⟨b.len, b.few, b.key, b.good, b.kq, b.nkl, b.nkv, b.pkn, b.pkv, Nat.le_trans b.bkl l, b.bkv, Nat.le_trans b.fkl l, b.fkv⟩⟩
/-- a change of a list that is not the grower's -/
theorem GI.updL (h : GI P w N G R c SS KQ H) {D : Addr} {xs : List V} {o : HO} (e : H D = some (.lst xs)) (n : ¬ own G D) : GI P w N G R c SS KQ (upd H D o) :=
  h.keep (fz_updL e) fun b ob => by rw [upd_ne (fun z => n (by rw [← z]; exact ob))]
end
/-! ### a general comprehension -/
theorem rd_lcT {J : It} {n : Nat} {Gd : Hp → Prop} {Y : Nat → Hp → V → Hp → Prop} (w : Walk J n Gd Y) (hY : ∀ i H x H', Y i H x H' → H' = H) {i : Nat} {tt : TT} {te : TE} {σ : L2.St} {H1 : Hp} {D : Addr} {Qd : Hp → Prop}
    (Iv : Nat → List V → Hp → Prop) (h0 : Iv 0 [] (upd H1 D (.lst []))) (hG : ∀ j acc H, Iv j acc H → Gd H)
    (hs : ∀ j x H acc (Ct : VK) (Cf : Hp → Prop), j < n → Y j H x H → Iv j acc H → H D = some (.lst acc) → acc.length ≤ j → (∀ y H4, H4 D = some (.lst acc) → acc.length < sizeLine → Iv (j + 1) (acc ++ [y]) (upd H4 D (.lst (acc ++ [y]))) → Ct y H4) → (∀ H3, H3 D = some (.lst acc) → Iv (j + 1) acc H3 → Cf H3) →
      tt ((wipe σ [i]).set i (some x)) H fun b H3 => if b = true then te ((wipe σ [i]).set i (some x)) H3 Ct else Cf H3)
    (hd : ∀ H acc, Iv n acc H → H D = some (.lst acc) → acc.length ≤ n → Qd H) :
    ∃ W : Nat → Nat → Hp → Prop, (∃ m, W 0 m (upd H1 D (.lst []))) ∧ ∀ i' m H, W i' m H →
      (J.stop i' H ∧ Qd H) ∨ (J.go i' H ∧ ∃ Nx : Hp → Prop, (∀ H', Nx H' → ∃ m', m' < m ∧ W (i' + 1) m' H') ∧ ∀ x H', J.yld i' H x H' → gName i x (wipe σ [i]) H' fun σ2 H2 => wipe σ2 [i] = wipe σ [i] ∧ tt σ2 H2 fun b H3 =>
        if b = true then te σ2 H3 fun y H4 => ∃ acc, H4 D = some (.lst acc) ∧ acc.length < sizeLine ∧ Nx (upd H4 D (.lst (acc ++ [y]))) else Nx H3) := by
  refine lc_it w (fun j H => ∃ acc, Iv j acc H ∧ H D = some (.lst acc) ∧ acc.length ≤ j) ⟨[], h0, upd_same, Nat.le_refl _⟩ (fun j H _ ⟨acc, h, _⟩ => hG j acc H h) ?_ ?_
  · rintro j x H H' hj ⟨acc, hi, ha, hl⟩ y
    have e := hY _ _ _ _ y
    subst e
    refine ⟨wipe_one σ i x, hs j x H' acc _ _ hj y hi ha hl (fun y H4 q1 q2 q3 => ⟨acc, q1, q2, acc ++ [y], q3, upd_same, ?_⟩) (fun H3 q1 q2 => ⟨acc, q2, q1, by omega⟩)⟩
    rw [List.length_append]
    exact Nat.succ_le_succ hl
  · rintro H ⟨acc, hi, ha, hl⟩
    exact hd H acc hi ha hl
end KG
end
section
set_option Elab.async false
set_option linter.all false
set_option autoImplicit false
set_option maxRecDepth 100000
set_option maxHeartbeats 4000000
/-! ## rows: all_left, any_bare, key_of; mark_of -/
namespace KG
open PySem PySem.Spec PyProof.Rows L2 KM
open C8 (Cal Met Mak pe_c pe_mk pe_mt pe_mt0)
/-- what a pattern must be -/
def Sz (p : Pat) : Prop := Cn p ∧ sz p ≤ 1000 ∧ sD p ≤ 1000 ∧ dD p ≤ 12 ∧ dp p ≤ 12
theorem leftAll_len2 {c : List Str} : ∀ {ps : List Pat}, (∀ p ∈ ps, sz p ≤ 1000) → (leftAll c ps).length ≤ ps.length * 1000
  | [], _ => by rw [leftAll]; simp
  | p :: ps, h => by
    have h1 := left_len p c
    have h2 := h p List.mem_cons_self
    have h3 := leftAll_len2 (c := c) fun q hq => h q (List.mem_cons_of_mem _ hq)
    rw [leftAll, List.length_append, List.length_cons]
    omega
theorem leftAll_append {c : List Str} (xs ys : List Pat) : leftAll c (xs ++ ys) = leftAll c xs ++ leftAll c ys := by
  induction xs with
  | nil => rw [leftAll]; rfl
  | cons x xs ih => rw [List.cons_append, leftAll, leftAll, ih, List.append_assoc]
theorem perm_map {α β : Type} {f : α → β} {ys zs : List β} (h : ys.Perm zs) : ∀ ps : List α, zs = ps.map f → ∃ qs : List α, qs.Perm ps ∧ ys = qs.map f := by
  induction h with
  | nil =>
    intro ps e
    cases ps with
    | nil => exact ⟨[], .nil, rfl⟩
    | cons p ps => cases e
  | cons x _ ih =>
    intro ps e
    cases ps with
    | nil => cases e
    | cons p ps =>
      injection e with e1 e2
      obtain ⟨qs, h1, h2⟩ := ih ps e2
      exact ⟨p :: qs, h1.cons p, by rw [h2, e1]; rfl⟩
  | swap x y l =>
    intro ps e
    match ps, e with
    | p :: q :: ps, e =>
      injection e with e1 e2
      injection e2 with e2 e3
      exact ⟨q :: p :: ps, .swap _ _ _, by rw [e1, e2, e3]; rfl⟩
  | trans _ _ ih1 ih2 =>
    intro ps e
    obtain ⟨qs, h1, h2⟩ := ih2 ps e
    obtain ⟨rs, h3, h4⟩ := ih1 qs h2
    exact ⟨rs, h3.trans h1, h4⟩
def spAnyBare (N : Nm) : Sp := sp1 fun v H Q => ∃ l ps, v = .ref l ∧ LstAt N H ps l ∧ (∀ p ∈ ps, Sz p) ∧ ps.length ≤ 4000 ∧ ∀ H', Same H H' → Q (.bl (ps.any bare)) H'
def spAllLeft (N : Nm) : Sp := sp2 fun v u H Q => ∃ (l : Addr) (ps : List Pat) (t : Addr) (fs : List Str), v = .ref l ∧ u = .ref t ∧ LstAt N H ps l ∧ H t = some (.tup (fs.map V.str)) ∧ (∀ p ∈ ps, Sz p) ∧ ps.length ≤ 4000 ∧ ∀ g H', Same H H' → LstAt N H' (once (leftAll fs ps)) g → Q (.ref g) H'
def spKeyOf (N : Nm) : Sp := sp1 fun v H Q => ∃ l ps, v = .ref l ∧ LstAt N H ps l ∧ (∀ p ∈ ps, Sz p) ∧ ps.length ≤ 4000000 ∧ ∀ t qs H', Same H H' → qs.Perm ps → H' t = some (.tup ((pens qs).map V.str)) → Q (.ref t) H'
section
variable {P : Program} {w : World} {K : PySem.W.Frag} {mg : Str → Option Value} {base : Heap} {N : Nm}
theorem scAnyBare : FnScope ["patterns", "pattern"] ["patterns"] (defScope sAnyBare) := ⟨rfl, rfl, rfl, by decide +kernel, rfl, by decide +kernel, by decide +kernel⟩
theorem any_id (ps : List Pat) : (ps.map bare).any id = ps.any bare := by
  rw [List.any_map]; rfl
theorem ok_any_bare (T : Tx K mg N) : Cal P w K mg base 13 "any_bare" (spAnyBare N) [] := by
  refine T.d_any_bare.cal scAnyBare (fun _ _ _ _ _ _ us hl => match us, hl with | [_], _ => rfl) len1 (fun f cdv A outer s H vs Q E hr h => ?_)
  obtain ⟨_, rfl, l, ps, rfl, ⟨as, hl, hp⟩, hs, hlen, k⟩ := h
  refine ⟨_, pss_one (ps_ret (pe_callB (cr_any rfl) (by rfl) T.z_any (by decide +kernel) (pa_cons (pe_lc (own := [("pattern", 1)]) (g := gName 1) (tt := tYes) rfl scAnyBare.nd (pi_list (pv 0)) (blkOk_by (N := ["patterns", "pattern"]) (sc := defScope sAnyBare) (by decide +kernel))
      (fun _ _ _ _ _ => pg_name (i := 1) scAnyBare.nd rfl (Or.inl rfl)) (fun _ _ _ _ _ => pts_nil) (fun _ _ _ _ _ => KR.pe_meth0D (pv 1) (fun i => met_md (ok_bare T 12 i)) hr (Nat.le_refl _))) pa_nil))), ?_⟩
  have hln := pats_len hp
  refine ⟨_, rfl, l, rfl, ⟨_, SqL.of hl⟩, fun D hD => rd_lc walk_list yat_eq hD (by rw [List.length_map]; omega) (fun j y H' => ∃ p, ps[j]? = some p ∧ y = .bl (bare p)) (fun j y H1 H2 z q => q)
    (fun H' s' => SqL.of (s' _ _ hl)) (fun j x H' C hj y s' k' => ?_) (fun H' acc s' hacc hl2 hf => ?_)⟩
  · rw [List.length_map] at hj
    obtain ⟨b, q, e1, e2, e3, e4⟩ := pats_at hp hj y.2
    subst e1
    have e5 := e4.fz (fz_same s')
    have hm : q ∈ ps := List.mem_of_getElem? e3
    obtain ⟨dx, fs, i1, i2, i3, _⟩ := pat_ins e5
    obtain ⟨_, z1, _, _, z2⟩ := hs q hm
    exact ⟨_, rfl, kdOf q, b, dx, fs, rfl, i1, i3, _, rfl, b, q, rfl, rfl, e5, z2, z1, fun H4 s5 => k' _ H4 s5 ⟨q, e3, rfl⟩⟩
  · rw [List.length_map] at hl2 hf
    have e6 : acc = (ps.map bare).map V.bl := by
      rw [List.map_map]
      exact acc_map (f := V.bl ∘ bare) hln hl2 hf
    refine ⟨D, ps.map bare, rfl, SqL.of (by rw [← e6]; exact hacc), ?_⟩
    rw [any_id]
    exact k H' s'
theorem scAllLeft : FnScope ["patterns", "forms", "found", "pattern"] ["patterns", "forms"] (defScope sAllLeft) := ⟨rfl, rfl, rfl, by decide +kernel, rfl, by decide +kernel, by decide +kernel⟩
theorem ok_all_left (T : Tx K mg N) : Cal P w K mg base 41 "all_left" (spAllLeft N) [] := by
  refine T.d_all_left.cal scAllLeft (fun _ _ _ _ _ _ us hl => match us, hl with | [_, _], _ => rfl) len2 (fun f cdv A outer s H vs Q E hr h => ?_)
  obtain ⟨_, _, rfl, l, ps, t, fs, rfl, rfl, ⟨as, hl, hp⟩, ht, hs, hlen, k⟩ := h
  have sm : ∀ r ∈ leftAll fs ps, Sm r ∧ dp r ≤ 12 := fun r hr => by
    obtain ⟨p, hp, hq⟩ := leftAll_iff.mp hr
    obtain ⟨z1, z2, z3, z4, z5⟩ := hs p hp
    obtain ⟨x, y, _⟩ := left_sm z1 z3 hq
    exact ⟨x, by omega⟩
  have hal : ∀ i, (leftAll fs (ps.take i)).length ≤ 4000000 := fun i => by
    have h1 := leftAll_len2 (c := fs) (ps := ps.take i) fun p hp => (hs p (List.mem_of_mem_take hp)).2.1
    have h2 : (ps.take i).length ≤ ps.length := by rw [List.length_take]; omega
    omega
  refine ⟨_, pss_cons (ps_set (i := 2) scAllLeft.nd rfl (Or.inl rfl) (pe_lst pa_nil))
    (pss_cons (ps_for PassesOwn.never rfl (pi_list (pv 0)) (pg_name (i := 3) scAllLeft.nd rfl (Or.inl rfl))
      (pss_one (ps_expr (pe_bm PySem.F.plainAttrs_list PySem.F.slot_list_extend PySem.F.type_list_extend mt_extend (pv 2) (pa_cons (KR.pe_methD (pv 3) (fun i => met_md (ok_left T 12 12 i)) hr (Nat.le_refl _) (pa_cons (pv 1) pa_nil)) pa_nil)))))
      (pss_one (ps_ret (pe_c (ok_each_once T 12) hr (by decide) rfl (pa_cons (pv 2) pa_nil))))), ?_⟩
  refine ⟨(by show 0 ≤ sizeLine; decide), fun g hg0 => ?_⟩
  have s0 := same_new hg0 (.lst [])
  have hln := pats_len hp
  refine ⟨_, rfl, l, rfl, ⟨_, SqL.of (s0 _ _ hl)⟩, for_list (xs := as.map V.ref) (fun i σ H' => ∃ u, σ = [some (.ref l), some (.ref t), some (.ref g), u] ∧ Gat N H g (leftAll fs (ps.take i)) H') ?_ ?_ ?_ ?_⟩
  · exact ⟨none, rfl, by rw [List.take_zero, leftAll]; exact gat_new hg0⟩
  · rintro i σ H' hi ⟨u, rfl, G⟩
    exact SqL.of (G.same hg0 _ _ hl)
  · rintro i x σ H' hx ⟨u, rfl, G⟩
    have s' := G.same hg0
    have hi : i < as.length := by have := (List.getElem?_eq_some_iff.mp hx).1; rw [List.length_map] at this; exact this
    obtain ⟨b, q, e1, e2, e3, e4⟩ := pats_at hp hi hx
    subst e1
    have e5 := e4.fz (fz_same s')
    have hm : q ∈ ps := List.mem_of_getElem? e3
    obtain ⟨z1, z2, z3, z4, z5⟩ := hs q hm
    obtain ⟨dx2, fs2, i1, _, _, i4, _⟩ := pat_ins e5
    have e6 : leftAll fs (ps.take (i + 1)) = leftAll fs (ps.take i) ++ left fs q := by
      rw [take_snoc e3, leftAll_append, leftAll, leftAll, List.append_nil]
    have hl1 := hal (i + 1)
    rw [e6, List.length_append] at hl1
    obtain ⟨_, cs0, hgg0, hcs0⟩ := id G
    refine ⟨_, rfl, .inl ⟨rfl, _, SqL.of hgg0⟩, _, rfl, kdOf q, b, dx2, fs2, rfl, i1, i4, _, rfl, _, _, rfl, b, q, t, fs, rfl, rfl, s' _ _ ht, rfl, e5, z1, z3, z4, z5, fun l H2 s2 ⟨ds, hll, hds⟩ => ?_⟩
    have G2 := G.keep s2
    obtain ⟨_, cs, hgg, hcs⟩ := id G2
    have l1 := pats_len hcs
    have l2 := pats_len hds
    refine ⟨g, l, _, _, rfl, rfl, hgg, hll, by rw [List.length_map, List.length_map, sizeLine_eq]; omega, ?_⟩
    refine ⟨_, rfl, ?_⟩
    rw [e6]
    exact G2.add hds hgg hcs
  · rintro σ H' ⟨u, rfl, G⟩
    rw [List.length_map, hln, List.take_length] at G
    obtain ⟨_, cs, hgg, hcs⟩ := id G
    have := hal ps.length
    rw [List.take_length] at this
    exact ⟨_, rfl, _, rfl, g, leftAll fs ps, rfl, ⟨cs, hgg, hcs⟩, fun r hr2 => (sm r hr2).1, dps_of fun r hr2 => (sm r hr2).2, this, fun l' H2 s2 hl' => k l' H2 ((G.same hg0).trans s2) hl'⟩
theorem scKeyOf : FnScope ["patterns", "pattern"] ["patterns"] (defScope sKeyOf) := ⟨rfl, rfl, rfl, by decide +kernel, rfl, by decide +kernel, by decide +kernel⟩
theorem ok_key_of (T : Tx K mg N) : Cal P w K mg base 25 "key_of" (spKeyOf N) [] := by
  refine T.d_key_of.cal scKeyOf (fun _ _ _ _ _ _ us hl => match us, hl with | [_], _ => rfl) len1 (fun f cdv A outer s H vs Q E hr h => ?_)
  obtain ⟨_, rfl, l, ps, rfl, ⟨as, hl, hp⟩, hs, hlen, k⟩ := h
  refine ⟨_, pss_one (ps_ret (pe_callTy call_tuple_of rfl T.z_tuple boot_tuple (pa_cons (pe_callB KR.cr_sortedSA (by rfl) T.z_sorted (by decide +kernel) (pa_cons (pe_lc (own := [("pattern", 1)]) (g := gName 1) (tt := tYes) rfl scKeyOf.nd (pi_list (pv 0)) (blkOk_by (N := ["patterns", "pattern"]) (sc := defScope sKeyOf) (by decide +kernel))
      (fun _ _ _ _ _ => pg_name (i := 1) scKeyOf.nd rfl (Or.inl rfl)) (fun _ _ _ _ _ => pts_nil) (fun _ _ _ _ _ => pe_c (ok_penned T 12) hr (by decide) rfl (pa_cons (KR.pe_meth0D (pv 1) (fun i => met_md (ok_told T 12 i)) hr (Nat.le_refl _)) pa_nil))) pa_nil)) pa_nil))), ?_⟩
  have hln := pats_len hp
  refine ⟨_, rfl, l, rfl, ⟨_, SqL.of hl⟩, fun D hD => rd_lc walk_list yat_eq hD (by rw [List.length_map]; omega) (fun j y H' => ∃ p, ps[j]? = some p ∧ y = .str (penS p)) (fun j y H1 H2 z q => q)
    (fun H' s' => SqL.of (s' _ _ hl)) (fun j x H' C hj y s' k' => ?_) (fun H' acc s' hacc hl2 hf => ?_)⟩
  · rw [List.length_map] at hj
    obtain ⟨b, q, e1, e2, e3, e4⟩ := pats_at hp hj y.2
    subst e1
    have e5 := e4.fz (fz_same s')
    have hm : q ∈ ps := List.mem_of_getElem? e3
    obtain ⟨dx, fs, i1, i2, i3, _⟩ := pat_ins e5
    obtain ⟨z1, z2, _, _, z5⟩ := hs q hm
    exact ⟨_, rfl, kdOf q, b, dx, fs, rfl, i1, i2, _, rfl, b, q, rfl, rfl, e5, ⟨z1, z2⟩, z5, fun v' H4 s5 d4 => ⟨_, rfl, q, d4, ⟨z1, z2⟩, z5, fun H5 s6 => k' _ H5 (s5.trans s6) ⟨q, e3, rfl⟩⟩⟩
  · rw [List.length_map] at hl2 hf
    have e6 : acc = (ps.map penS).map V.str := by
      rw [List.map_map]
      exact acc_map (f := V.str ∘ penS) hln hl2 hf
    refine ⟨D, ps.map penS, rfl, SqL.of (by rw [← e6]; exact hacc), fun ys p pm hp0 => ?_⟩
    obtain ⟨qs, h1, h2⟩ := perm_map pm ps rfl
    subst h2
    refine ⟨p, _, rfl, .inl ⟨SqL.of upd_same, fun t ht0 => ?_⟩⟩
    exact k t qs _ (s'.trans ((same_new hp0 _).trans (same_new ht0 _))) h1 upd_same
/-! ### mark_of -/
def maskOf : List Bool → Nat
  | [] => 0
  | b :: bs => (if b then 1 else 0) + 2 * maskOf bs
def spMark : Sp := sp1 fun v H Q => ∃ (l : Addr) (bs : List Bool), v = .ref l ∧ H l = some (.lst (bs.map V.bl)) ∧ bs.length ≤ 8 ∧ Q (.int (maskOf bs)) H
theorem scMarkOf : FnScope ["truths", "found", "power", "truth"] ["truths"] (defScope sMarkOf) := ⟨rfl, rfl, rfl, by decide +kernel, rfl, by decide +kernel, by decide +kernel⟩
theorem ok_mark_of (T : Tx K mg N) : Cal P w K mg base 1 "mark_of" spMark [] := by
  refine T.d_mark_of.cal scMarkOf (fun _ _ _ _ _ _ us hl => match us, hl with | [_], _ => rfl) len1 (fun f cdv A outer s H vs Q E hr h => ?_)
  obtain ⟨_, rfl, l, bs, rfl, hl, hlen, k⟩ := h
  refine ⟨_, pss_cons (ps_set (i := 1) scMarkOf.nd rfl (Or.inl rfl) pe_int) (pss_cons (ps_set (i := 2) scMarkOf.nd rfl (Or.inl rfl) pe_int)
    (pss_cons (ps_for PassesOwn.never rfl (pi_list (pv 0)) (pg_name (i := 3) scMarkOf.nd rfl (Or.inl rfl))
      (pss_cons (ps_if (pt_val (pv 3)) (pss_one (ps_set (i := 1) scMarkOf.nd rfl (Or.inl rfl) (pe_op op_add (pv 1) (pv 2)))) pss_nil)
        (pss_one (ps_set (i := 2) scMarkOf.nd rfl (Or.inl rfl) (pe_op op_mul (pv 2) pe_int)))))
      (pss_one (ps_ret (pv 1))))), ?_⟩
  refine ⟨_, rfl, l, rfl, ⟨_, SqL.of hl⟩, for_list (xs := bs.map V.bl) (fun i σ H' => H' = H ∧ ∃ (m : Nat) (u : Option V), σ = [some (.ref l), some (.int m), some (.int ((2 ^ i : Nat) : Int)), u] ∧ m + 2 ^ i * maskOf (bs.drop i) = maskOf bs) ?_ ?_ ?_ ?_⟩
  · exact ⟨rfl, 0, none, rfl, by simp⟩
  · rintro i σ H' hi ⟨rfl, _⟩
    exact SqL.of hl
  · rintro i x σ H' hx ⟨rfl, m, u, rfl, hm⟩
    have hi : i < bs.length := by have := (List.getElem?_eq_some_iff.mp hx).1; rw [List.length_map] at this; exact this
    rw [List.getElem?_map, List.getElem?_eq_getElem hi] at hx
    have e1 : V.bl bs[i] = x := Option.some.inj hx
    subst e1
    have h2 : (2 : Nat) ^ i ≤ 2 ^ 8 := Nat.pow_le_pow_right (by decide) (by omega)
    have hb1 : (0 : Int) ≤ ((2 ^ i : Nat) : Int) := Int.natCast_nonneg _
    have hb2 : ((2 ^ i : Nat) : Int) ≤ 256 := Int.ofNat_le.mpr h2
    have hb : -(2 ^ 64) < ((2 ^ i : Nat) : Int) ∧ ((2 ^ i : Nat) : Int) < 2 ^ 64 := by
      generalize ((2 ^ i : Nat) : Int) = z at *
      omega
    have hpow : ((2 ^ i : Nat) : Int) * 2 = ((2 ^ (i + 1) : Nat) : Int) := by rw [Nat.pow_succ]; omega
    rw [List.drop_eq_getElem_cons hi, maskOf] at hm
    refine ⟨_, rfl, _, rfl, ?_⟩
    cases eb : bs[i] with
    | true =>
      refine iteT ?_
      refine ⟨_, rfl, _, rfl, _, _, rfl, rfl, _, rfl, _, _, rfl, rfl, .inl hb, ?_⟩
      rw [eb] at hm
      refine ⟨rfl, m + 2 ^ i, some (.bl true), ?_, ?_⟩
      · show [some (V.ref l), some (V.int ((m : Int) + ((2 ^ i : Nat) : Int))), some (V.int (((2 ^ i : Nat) : Int) * 2)), some (V.bl true)] = _
        rw [hpow, ← Int.natCast_add]
      · rw [if_pos rfl, Nat.mul_add, Nat.mul_one, ← Nat.mul_assoc, ← Nat.pow_succ] at hm
        rw [← hm, Nat.add_assoc]
    | false =>
      refine iteF ?_
      refine ⟨_, rfl, _, _, rfl, rfl, .inl hb, ?_⟩
      rw [eb] at hm
      refine ⟨rfl, m, some (.bl false), ?_, ?_⟩
      · show [some (V.ref l), some (V.int (m : Int)), some (V.int (((2 ^ i : Nat) : Int) * 2)), some (V.bl false)] = _
        rw [hpow]
      · rw [if_neg Bool.false_ne_true, Nat.zero_add, ← Nat.mul_assoc, ← Nat.pow_succ] at hm
        exact hm
  · rintro σ H' ⟨rfl, m, u, rfl, hm⟩
    rw [List.length_map, List.drop_length, maskOf, Nat.mul_zero, Nat.add_zero] at hm
    subst hm
    exact ⟨_, rfl, k⟩
end
end KG
end
section
set_option Elab.async false
set_option linter.all false
set_option autoImplicit false
set_option maxRecDepth 100000
set_option maxHeartbeats 4000000
/-! ## BookGrower: __init__, kept -/
namespace KG
open PySem PySem.Spec PyProof.Rows L2 KM
open C8 (Cal Met Mak pe_c pe_mk pe_mt pe_mt0)
open KN (NKey NDict KeyAt ND NEnt)
theorem hu2_of {A : Around} {k : Nat} (hr : Room k A) : A.units + 2 < cLine := Nat.lt_of_le_of_lt (Nat.add_le_add_left (by decide : 2 ≤ 64) _) hr.units
/-! ### the patterns' dict -/
theorem mem_putK {κ : Type} [DecidableEq κ] {kvs : List (κ × V)} {k : κ} {v : V} {kv : κ × V} (h : kv ∈ putK kvs k v) : (kv.1 = k ∧ kv.2 = v) ∨ kv ∈ kvs := by
  unfold putK at h
  split at h
  · obtain ⟨x, hx, e⟩ := List.mem_map.mp h
    subst e
    by_cases hk : x.1 = k
    · rw [if_pos hk]; exact .inl ⟨hk, rfl⟩
    · rw [if_neg hk]; exact .inr hx
  · rcases List.mem_append.mp h with h | h
    · exact .inr h
    · rw [List.mem_singleton.mp h]; exact .inl ⟨rfl, rfl⟩
theorem putK_nodup {κ : Type} [DecidableEq κ] {kvs : List (κ × V)} {k : κ} {v : V} (h : (kvs.map (·.1)).Nodup) : ((putK kvs k v).map (·.1)).Nodup := by
  cases e : valV kvs k with
  | none => exact nd_putK v h e
  | some u =>
    have q := valV_any (kvs := kvs) (k := k)
    rw [e] at q
    have q2 : (kvs.any fun kv => decide (kv.1 = k)) = true := q
    unfold putK
    rw [if_pos q2, List.map_map]
    have : (kvs.map ((fun x => x.1) ∘ fun kv => if kv.1 = k then (kv.1, v) else kv)) = kvs.map (·.1) := by
      refine List.map_congr_left fun x _ => ?_
      show (if x.1 = k then (x.1, v) else x).1 = x.1
      split <;> rfl
    rw [this]
    exact h
theorem mem_of_valV {κ : Type} [DecidableEq κ] {kvs : List (κ × V)} {k : κ} {v : V} (h : valV kvs k = some v) : ∃ kv ∈ kvs, kv.1 = k ∧ kv.2 = v := by
  unfold valV at h
  obtain ⟨kv, h1, h2⟩ := Option.map_eq_some_iff.mp h
  exact ⟨kv, List.mem_of_find?_eq_some h1, by simpa using List.find?_some h1, h2⟩
section
variable {P : Program} {w : World} {N : Nm} {G : GAd} {R : List Rl} {C : Ct} {c : Nat} {SS : List AS} {KQ : List (List Pat)} {H H' : Hp}
def Ct.putP (C : Ct) (p : Pat) (a : Addr) : Ct := ⟨C.as, C.nk, putK C.pk (Sum.inr (penS p)) (.ref a), C.bk, C.fk⟩
theorem isSome_put {κ : Type} [DecidableEq κ] {kvs : List (κ × V)} {k j : κ} {v : V} (h : (valV kvs j).isSome = true) : (valV (putK kvs k v) j).isSome = true := by
  rw [valV_put]
  split
  · rfl
  · exact h
theorem Valid.putP (h : Valid N R C c SS KQ H) {p : Pat} {a : Addr} (hp : PatAt N H p a) (hd : p ∈ DD R) : Valid N R (C.putP p a) c SS KQ H :=
  ⟨h.len, h.few, h.key, h.good, fun qs hq => ⟨(h.kq qs hq).1, fun q hq2 => isSome_put ((h.kq qs hq).2 q hq2)⟩, h.nkl, h.nkv, putK_nodup h.pkn, fun kv hk => by
    rcases mem_putK hk with ⟨e1, e2⟩ | hk
    · exact ⟨p, a, e1, e2, hp, hd⟩
    · exact h.pkv kv hk, h.bkl, h.bkv, h.fkl, h.fkv⟩
theorem Valid.pkl (ok : RulesOk R) (h : Valid N R C c SS KQ H) : C.pk.length ≤ 32000 := by
  have h1 := nodup_len (xs := C.pk.map (·.1)) (ys := (DD R).map fun p => (Sum.inr (penS p) : Key)) h.pkn fun x hx => by
    obtain ⟨kv, hk, e⟩ := List.mem_map.mp hx
    obtain ⟨p, a, e1, _, _, hd⟩ := h.pkv kv hk
    exact List.mem_map.mpr ⟨p, hd, by rw [← e, e1]⟩
  rw [List.length_map, List.length_map] at h1
  have := dd_len ok
  omega
theorem Shape.putP (h : Shape P w N G R C H) (p : Pat) (a : Addr) : Shape P w N G R (C.putP p a) (upd H G.dp (.dK (C.putP p a).pk)) := by
  have z : Fz H (upd H G.dp (.dK (C.putP p a).pk)) := but_upd.fz h.pt (fun z => z)
  obtain ⟨rs, e1, e2⟩ := h.rules
  have k1 : G.dn ≠ G.dp := by
    obtain ⟨es, e⟩ := nd_some h.nd
    exact ne_of e h.pt (fun z => nomatch z)
  have k2 : G.db ≠ G.dp := by
    obtain ⟨es, e⟩ := nd_some h.bd
    exact ne_of e h.pt (fun z => nomatch z)
  have k3 : G.df ≠ G.dp := by
    obtain ⟨es, e⟩ := nd_some h.fd
    exact ne_of e h.pt (fun z => nomatch z)
  have k4 : G.ls ≠ G.dp := ne_of h.st h.pt (fun z => nomatch z)
  exact ⟨z _ _ True.intro h.self, ⟨rs, z _ _ True.intro e1, e2.fz z⟩, nd_keep h.nd (upd_ne k1) z, by rw [upd_ne k4]; exact h.st, upd_same, nd_keep h.bd (upd_ne k2) z, nd_keep h.fd (upd_ne k3) z, h.n1, h.n2, h.n3⟩
theorem Valid.addQ (h : Valid N R C c SS KQ H) {qs : List Pat} (v : VQ R qs) (k : ∀ q ∈ qs, (valV C.pk (Sum.inr (penS q))).isSome = true) : Valid N R C c SS (qs :: KQ) H :=
  ⟨h.len, h.few, h.key, fun σ hσ => ⟨(h.good σ hσ).1, fun x hx => List.mem_cons_of_mem _ ((h.good σ hσ).2 x hx)⟩, fun x hx => by
    rcases List.mem_cons.mp hx with e | hx
    · subst e; exact ⟨v, k⟩
    · exact h.kq x hx, h.nkl, h.nkv, h.pkn, h.pkv, h.bkl, fun κ u e => by
    obtain ⟨a, b, d, t, e1, e2, e3, e4, e5, e6⟩ := h.bkv κ u e
    exact ⟨a, b, d, t, e1, e2, e3, e4, e5, List.mem_cons_of_mem _ e6⟩, h.fkl, h.fkv⟩
theorem VQ.perm {qs ps : List Pat} (h : VQ R ps) (e : qs.Perm ps) : VQ R qs := by
  obtain ⟨a, r, hr, k⟩ := h
  exact ⟨e.nodup_iff.mpr a, r, hr, fun q hq => k q (e.mem_iff.mp hq)⟩
theorem dd_sz (ok : RulesOk R) {p : Pat} (hp : p ∈ DD R) : Sz p := dd_ok ok hp
/-- the patterns looked up -/
theorem Valid.look (ok : RulesOk R) (h : Valid N R C c SS KQ H) {qs : List Pat} (hq : qs ∈ KQ) {q : Pat} (hm : q ∈ qs) : ∃ a, valV C.pk (Sum.inr (penS q)) = some (.ref a) ∧ PatAt N H q a := by
  obtain ⟨v, k⟩ := h.kq qs hq
  obtain ⟨u, e⟩ := Option.isSome_iff_exists.mp (k q hm)
  obtain ⟨kv, m, e1, e2⟩ := mem_of_valV e
  obtain ⟨p, a, f1, f2, f3, f4⟩ := h.pkv kv m
  have e3 : penS q = penS p := by
    rw [e1] at f1
    injection f1
  have e4 := penS_inj (dd_ok ok (v.dd q hm)).1 (dd_ok ok f4).1 e3
  subst e4
  exact ⟨a, by rw [e, ← e2, f2], f3⟩
end
section
variable {P : Program} {w : World} {K : PySem.W.Frag} {mg : Str → Option Value} {base : Heap} {N : Nm}
def spGInit (P : Program) (w : World) (N : Nm) : Sp := sp1 fun v H Q => ∃ (a dx : Addr), v = .ref a ∧ H a = some (.ins N.grow dx []) ∧ ∀ (dn ls : Addr) H', H dn = none → H ls = none → dn ≠ a → ls ≠ a → (∀ b o, b ≠ a → H b = some o → H' b = some o) → H' a = some (.ins N.grow dx (putF "states" (.ref ls) (putF "numbers" (.ref dn) []))) →
  H' dn = some (ND P w dn []) → H' ls = some (.lst []) → Q .non H'
theorem scGInit : FnScope ["self"] ["self"] (defScope sGrowerInit) := ⟨rfl, rfl, rfl, by decide +kernel, rfl, by decide +kernel, by decide +kernel⟩
theorem ok_GInit (T : Tx K mg N) {f : Addr} {fd : FuncData} (F : FunD K "__init__" "Grower.__init__" (defArgs sGrowerInit) (defBody sGrowerInit) (defScope sGrowerInit) [] [] f fd) : FnOk P w K mg base CX0 1 f fd ["self"] (spGInit P w N) := by
  refine F.ok scGInit len1 (fun cdv A outer s H vs Q E hr h => body0 (q := "Grower.__init__") (k := 0) (sp := spGInit P w N) ?_ f cdv A outer s H vs Q E hr h)
  intro f cdv A outer s H vs Q E hr h
  obtain ⟨_, rfl, a, dx, rfl, ha, k⟩ := h
  refine ⟨_, pss_cons (ps_fld (pv 0) KN.pe_nnew rfl) (pss_one (ps_fld (pv 0) (pe_lst pa_nil) rfl)), ?_⟩
  intro dn hdn
  have n1 : dn ≠ a := fun z => by rw [z, ha] at hdn; cases hdn
  refine ⟨_, rfl, a, _, dx, _, rfl, by rw [upd_ne (Ne.symm n1)]; exact ha, T.cl_BookGrower, T.na_BookGrower_numbers, (by show 0 < 1000; decide), ?_⟩
  refine ⟨(by show 0 ≤ sizeLine; decide), fun ls hls => ?_⟩
  have n2 : ls ≠ a := fun z => by rw [z, upd_same] at hls; cases hls
  have n3 : ls ≠ dn := fun z => by rw [z, upd_ne n1, upd_same] at hls; cases hls
  have hls0 : H ls = none := by rw [upd_ne n2, upd_ne n3] at hls; exact hls
  refine ⟨_, rfl, a, _, dx, _, rfl, by rw [upd_ne (Ne.symm n2)]; exact upd_same, T.cl_BookGrower, T.na_BookGrower_states, (by have := length_putF "numbers" (.ref dn) []; show (putF "numbers" (.ref dn) []).length < 1000; simp at this ⊢; omega), ?_⟩
  refine k dn ls _ hdn hls0 n1 n2 (fun b o hb e => ?_) upd_same ?_ ?_
  · rw [upd_ne hb, upd_ne (ne_of_none e hls0), upd_ne hb, upd_ne (ne_of_none e hdn)]
    exact e
  · rw [upd_ne n1, upd_ne (Ne.symm n3), upd_ne n1, upd_same]
    rfl
  · rw [upd_ne n2, upd_same]
def spBInit (P : Program) (w : World) (N : Nm) (R : List Rl) : Sp := sp2 fun v u H Q => ∃ (a dx t : Addr) (rs : List Addr) (H0 : Hp), v = .ref a ∧ u = .ref t ∧ H a = some (.ins N.grow dx []) ∧ H0 a = none ∧ Same H0 H ∧ H0 t = some (.tup (rs.map V.ref)) ∧ RulesAt N H0 R rs ∧
  ∀ G H', G.S = a → Same H0 H' → GI P w N G R 0 [] [] H' → (∀ b, own G b → H0 b = none) → Q .non H'
theorem scBInit : FnScope ["self", "book"] ["self", "book"] (defScope sBookgrowerInit) := ⟨rfl, rfl, rfl, by decide +kernel, rfl, by decide +kernel, by decide +kernel⟩
theorem upd7 {H1 : Hp} {a dp db df : Addr} {o1 o2 o3 o4 o5 o6 o7 : HO} (p1 : dp ≠ a) (b1 : db ≠ a) (b2 : db ≠ dp) (f1 : df ≠ a) (f2 : df ≠ db) (f3 : df ≠ dp) :
    (∀ b, b ≠ a → b ≠ df → b ≠ db → b ≠ dp → (upd (upd (upd (upd (upd (upd (upd H1 a o1) dp o2) a o3) db o4) a o5) df o6) a o7) b = H1 b) ∧ (upd (upd (upd (upd (upd (upd (upd H1 a o1) dp o2) a o3) db o4) a o5) df o6) a o7) dp = some o2 ∧
    (upd (upd (upd (upd (upd (upd (upd H1 a o1) dp o2) a o3) db o4) a o5) df o6) a o7) db = some o4 ∧ (upd (upd (upd (upd (upd (upd (upd H1 a o1) dp o2) a o3) db o4) a o5) df o6) a o7) df = some o6 := by
  refine ⟨fun b n1 n2 n3 n4 => ?_, ?_, ?_, ?_⟩
  · rw [upd_ne n1, upd_ne n2, upd_ne n1, upd_ne n3, upd_ne n1, upd_ne n4, upd_ne n1]
  · rw [upd_ne p1, upd_ne (Ne.symm f3), upd_ne p1, upd_ne (Ne.symm b2), upd_ne p1, upd_same]
  · rw [upd_ne b1, upd_ne (Ne.symm f2), upd_ne b1, upd_same]
  · rw [upd_ne f1, upd_same]
theorem few_put (f : Str) (v : V) (fs : List (Str × V)) {n : Nat} (h : fs.length ≤ n) : (putF f v fs).length ≤ n + 1 := by
  have := length_putF f v fs
  omega
theorem ok_BInit (T : Tx K mg N) (R : List Rl) : Mak P w K mg base 2 "BookGrower" N.grow (spBInit P w N R) [] := by
  obtain ⟨gf, gfd, hg, hcr, hcv, F⟩ := T.ginit
  refine T.k_BookGrower.mak scBInit (fun _ _ _ _ _ _ us hl => match us, hl with | [_, _], _ => rfl) len2 (fun f cdv A outer s H vs Q E hr h => ?_)
  obtain ⟨_, _, rfl, a, dx, t, rs, H0, rfl, rfl, ha, ha0, s0, ht0, hrs, k⟩ := h
  have ht := s0 _ _ ht0
  refine ⟨_, pss_cons (ps_expr (KR.pe_clsfn (pe_glob (v := .ref N.gcls) rfl hg rfl) hcr hcv F.kp (ok_GInit T F) (F.bindsN (fun _ _ _ _ _ _ us hl => match us, hl with | [_], _ => rfl)) hr (Nat.le_refl _) (pa_cons (pv 0) pa_nil)))
    (pss_cons (ps_fld (pv 0) (pv 1) rfl) (pss_cons (ps_fld (pv 0) pe_dnewK rfl) (pss_cons (ps_fld (pv 0) KN.pe_nnew rfl) (pss_one (ps_fld (pv 0) KN.pe_nnew rfl))))), ?_⟩
  refine ⟨rfl, _, rfl, _, rfl, a, dx, rfl, ha, fun dn ls H1 hdn hls na1 na2 kp1 ha1 hdn1 hls1 => ?_⟩
  have l2 : (putF "states" (V.ref ls) (putF "numbers" (V.ref dn) [])).length ≤ 2 := few_put _ _ _ (few_put _ _ _ (Nat.zero_le _))
  refine ⟨_, rfl, _, rfl, a, _, dx, _, rfl, ha1, T.cl_BookGrower, T.na_BookGrower_rules, Nat.lt_of_le_of_lt l2 (by decide), ?_⟩
  have l3 := few_put "rules" (V.ref t) _ l2
  intro dp hdp
  have p1 : dp ≠ a := fun z => by rw [z, upd_same] at hdp; cases hdp
  have hdp1 : H1 dp = none := by rw [upd_ne p1] at hdp; exact hdp
  refine ⟨_, rfl, a, _, dx, _, rfl, by rw [upd_ne (Ne.symm p1)]; exact upd_same, T.cl_BookGrower, T.na_BookGrower_patterns, Nat.lt_of_le_of_lt l3 (by decide), ?_⟩
  have l4 := few_put "patterns" (V.ref dp) _ l3
  intro db hdb
  have b1 : db ≠ a := fun z => by rw [z, upd_same] at hdb; cases hdb
  have b2 : db ≠ dp := fun z => by rw [z, upd_ne p1, upd_same] at hdb; cases hdb
  have hdb1 : H1 db = none := by rw [upd_ne b1, upd_ne b2, upd_ne b1] at hdb; exact hdb
  refine ⟨_, rfl, a, _, dx, _, rfl, by rw [upd_ne (Ne.symm b1)]; exact upd_same, T.cl_BookGrower, T.na_BookGrower_behind, Nat.lt_of_le_of_lt l4 (by decide), ?_⟩
  have l5 := few_put "behind" (V.ref db) _ l4
  intro df hdf
  have f1 : df ≠ a := fun z => by rw [z, upd_same] at hdf; cases hdf
  have f2 : df ≠ db := fun z => by rw [z, upd_ne b1, upd_same] at hdf; cases hdf
  have f3 : df ≠ dp := fun z => by rw [z, upd_ne p1, upd_ne (Ne.symm b2), upd_ne p1, upd_same] at hdf; cases hdf
  have hdf1 : H1 df = none := by rw [upd_ne f1, upd_ne f2, upd_ne f1, upd_ne f3, upd_ne f1] at hdf; exact hdf
  refine ⟨_, rfl, a, _, dx, _, rfl, by rw [upd_ne (Ne.symm f1)]; exact upd_same, T.cl_BookGrower, T.na_BookGrower_formed, Nat.lt_of_le_of_lt l5 (by decide), ?_⟩
  -- the last heap
  have non1 : ∀ b, H1 b = none → b ≠ a → H b = none := fun b e hb => by
    cases e2 : H b with
    | none => rfl
    | some o => rw [kp1 b o hb e2] at e; cases e
  have non0 : ∀ b, H b = none → H0 b = none := fun b e => by
    cases e2 : H0 b with
    | none => rfl
    | some o => rw [s0 b o e2] at e; cases e
  have hne : ∀ {b c : Addr} {o : HO}, H1 b = some o → H1 c = none → b ≠ c := fun e1 e2 => ne_of_none e1 e2
  have nta : t ≠ a := ne_of_none ht0 ha0
  have ht1 := kp1 t _ nta ht
  have all : ∀ {X : Hp}, (∀ b, b ≠ a → b ≠ df → b ≠ db → b ≠ dp → X b = H1 b) → (∀ b o, b ≠ a → H1 b = some o → X b = some o) ∧ Same H0 X := fun {X} h => by
    have h2 : ∀ b o, b ≠ a → H1 b = some o → X b = some o := fun b o hb e => by
      rw [h b hb (hne e hdf1) (hne e hdb1) (hne e hdp1)]
      exact e
    exact ⟨h2, fun b o e => h2 b o (ne_of_none e ha0) (kp1 b o (ne_of_none e ha0) (s0 b o e))⟩
  have u7 := fun (o1 o2 o3 o4 o5 o6 o7 : HO) => upd7 (H1 := H1) (o1 := o1) (o2 := o2) (o3 := o3) (o4 := o4) (o5 := o5) (o6 := o6) (o7 := o7) p1 b1 b2 f1 f2 f3
  refine k ⟨a, dx, dn, ls, t, dp, db, df⟩ _ rfl (all (u7 _ _ _ _ _ _ _).1).2 ⟨⟨[], [], [], [], []⟩, ⟨upd_same, ⟨rs, (all (u7 _ _ _ _ _ _ _).1).2 _ _ ht0, ?_⟩, ⟨[], (all (u7 _ _ _ _ _ _ _).1).1 _ _ na1 hdn1, fun e he => (by cases he), rfl⟩, (all (u7 _ _ _ _ _ _ _).1).1 _ _ na2 hls1, (u7 _ _ _ _ _ _ _).2.1,
    ⟨[], (u7 _ _ _ _ _ _ _).2.2.1, fun e he => (by cases he), rfl⟩, ⟨[], (u7 _ _ _ _ _ _ _).2.2.2, fun e he => (by cases he), rfl⟩, hne hdn1 hdb1, hne hdn1 hdf1, Ne.symm f2⟩, ?_⟩ (fun b o => ?_)
  · exact hrs.fz (fz_same (all (u7 _ _ _ _ _ _ _).1).2)
  · exact ⟨rfl, Nat.zero_le _, fun i σ a e => by simp at e, fun σ h => (by cases h), fun qs h => (by cases h), Nat.zero_le _, fun κ v e => (by cases e), List.nodup_nil, fun kv h => (by cases h), Nat.zero_le _, fun κ v e => (by cases e), Nat.zero_le _, fun κ v e => (by cases e)⟩
  · rcases o with o | o | o | o | o <;> rw [o]
    · exact non0 _ hdn
    · exact non0 _ hls
    · exact non0 _ (non1 _ hdp1 p1)
    · exact non0 _ (non1 _ hdb1 b1)
    · exact non0 _ (non1 _ hdf1 f1)
end
end KG
end
section
set_option Elab.async false
set_option linter.all false
set_option autoImplicit false
set_option maxRecDepth 100000
set_option maxHeartbeats 4000000
/-! ## BookGrower: kept, ends, forms_here -/
namespace KG
open PySem PySem.Spec PyProof.Rows L2 KM
open C8 (Cal Met Mak pe_c pe_mk pe_mt pe_mt0)
open KN (NKey NDict KeyAt ND NEnt)
def strT (fs : List Str) : HO := .tup (fs.map V.str)
section
variable {P : Program} {w : World} {K : PySem.W.Frag} {mg : Str → Option Value} {base : Heap} {N : Nm} {R : List Rl}
/-! ### kept -/
def spKept (P : Program) (w : World) (N : Nm) (R : List Rl) : Sp := sp2 fun v u H Q => ∃ (G : GAd) (c : Nat) (SS : List AS) (KQ : List (List Pat)) (l : Addr) (ps : List Pat), v = .ref G.S ∧ u = .ref l ∧ GI P w N G R c SS KQ H ∧ LstAt N H ps l ∧ VQ R ps ∧
  ∀ t qs H', Bt G H H' → GI P w N G R c SS (qs :: KQ) H' → qs.Perm ps → H' t = some (strT (pens qs)) → Q (.ref t) H'
theorem scKept : FnScope ["self", "some", "pattern"] ["self", "some"] (defScope sBookgrowerKept) := ⟨rfl, rfl, rfl, by decide +kernel, rfl, by decide +kernel, by decide +kernel⟩
theorem ok_kept (T : Tx K mg N) (ok : RulesOk R) : Met P w K mg base 26 N.grow "kept" (spKept P w N R) [] := by
  refine T.m_BookGrower_kept.met scKept (fun _ _ _ _ _ _ us hl => match us, hl with | [_, _], _ => rfl) len2 (fun f cdv A outer s H vs Q E hr h => ?_)
  obtain ⟨_, _, rfl, G, c, SS, KQ, l, ps, rfl, rfl, ⟨C, sh, va⟩, ⟨as, hl, hp⟩, vq, k⟩ := h
  have hu := hu_of hr
  refine ⟨_, pss_cons (ps_for PassesOwn.never rfl (pi_list (pv 1)) (pg_name (i := 2) scKept.nd rfl (Or.inl rfl))
      (pss_one (ps_dput hu (pe_fld (pv 0) rfl) (pe_c (ok_penned T 12) hr (by decide) rfl (pa_cons (KR.pe_meth0D (pv 2) (fun i => met_md (ok_told T 12 i)) hr (by decide)) pa_nil)) (pv 2) rfl)))
      (pss_one (ps_ret (pe_c (ok_key_of T) hr (by decide) rfl (pa_cons (pv 1) pa_nil)))), ?_⟩
  have hln := pats_len hp
  have hg := gfs_look G
  have nl : l ≠ G.dp := ne_of hl sh.pt (fun z => nomatch z)
  refine ⟨_, rfl, l, rfl, ⟨_, SqL.of hl⟩, for_list (xs := as.map V.ref) (fun i σ H' => ∃ u, σ = [some (.ref G.S), some (.ref l), u] ∧ But G.dp H H' ∧ Fz H H' ∧ ∃ C', Shape P w N G R C' H' ∧ Valid N R C' c SS KQ H' ∧ ∀ q ∈ ps.take i, (valV C'.pk (Sum.inr (penS q))).isSome = true) ?_ ?_ ?_ ?_⟩
  · exact ⟨none, rfl, But.refl _ _, Fz.refl _, C, sh, va, fun q hq => by simp at hq⟩
  · rintro i σ H' hi ⟨u, rfl, b, _⟩
    exact SqL.of (b _ _ nl hl)
  · rintro i x σ H' hx ⟨u, rfl, b, fz, C', sh', va', kn⟩
    have hi : i < as.length := by have := (List.getElem?_eq_some_iff.mp hx).1; rw [List.length_map] at this; exact this
    obtain ⟨a, q, e1, e2, e3, e4⟩ := pats_at hp hi hx
    subst e1
    have e5 := e4.fz fz
    have hm : q ∈ ps := List.mem_of_getElem? e3
    have hdd := vq.dd q hm
    have sz := dd_sz ok hdd
    obtain ⟨dx, fs, i1, i2, _⟩ := pat_ins e5
    refine ⟨_, rfl, _, rfl, G.S, _, _, _, _, rfl, sh'.self, T.cl_BookGrower, T.na_BookGrower_patterns, hg.2.2.2.1, ?_⟩
    refine ⟨_, rfl, kdOf q, a, dx, fs, rfl, i1, i2, _, rfl, a, q, rfl, rfl, e5, ⟨sz.1, sz.2.1⟩, sz.2.2.2.2, fun v' H4 s4 d4 => ⟨_, rfl, q, d4, ⟨sz.1, sz.2.1⟩, sz.2.2.2.2, fun H5 s5 => ?_⟩⟩
    have s6 := s4.trans s5
    have sh5 : Shape P w N G R C' H5 := sh'.keep (fz_same s6) fun x o => by
      obtain ⟨u, e, _⟩ := sh'.there o
      rw [e, s6 _ _ e]
    have va5 := va'.fz (fz_same s6)
    have pl := va'.pkl ok
    refine ⟨G.dp, _, rfl, DPut.k (k := Sum.inr (penS q)) sh5.pt (by rw [sizeLine_eq]; omega), ?_⟩
    have z : Fz H5 (upd H5 G.dp (.dK (C'.putP q a).pk)) := but_upd.fz sh5.pt (fun z => z)
    refine ⟨_, rfl, b.trans ((but_same s6).trans but_upd), fz.trans ((fz_same s6).trans z), C'.putP q a, sh5.putP q a, (va5.putP (e5.fz (fz_same s6)) hdd).fz z, fun r hr2 => ?_⟩
    rw [take_snoc e3] at hr2
    show (valV (putK C'.pk (Sum.inr (penS q)) (.ref a)) (Sum.inr (penS r))).isSome = true
    rcases List.mem_append.mp hr2 with h1 | h1
    · exact isSome_put (kn r h1)
    · rw [List.mem_singleton.mp h1, valV_put, if_pos rfl]
      rfl
  · rintro σ H' ⟨u, rfl, b, fz, C', sh', va', kn⟩
    rw [List.length_map, hln, List.take_length] at kn
    refine ⟨_, rfl, _, rfl, l, ps, rfl, ⟨as, b _ _ nl hl, hp.fz fz⟩, fun p hp2 => dd_sz ok (vq.dd p hp2), by have := vq.len ok; omega, fun t qs H2 s2 pm ht => ?_⟩
    refine k t qs H2 ((bt_but (.inr (.inr (.inl rfl))) b).trans (bt_same s2)) ?_ pm ht
    have va2 := (va'.addQ (vq.perm pm) fun q hq => kn q (pm.mem_iff.mp hq)).fz (fz_same s2)
    exact ⟨C', sh'.keep (fz_same s2) (fun x o => by
      obtain ⟨u, e, _⟩ := sh'.there o
      rw [e, s2 _ _ e]), va2⟩
/-! ### patterns by their pens -/
theorem vis (i : Nat) : True := True.intro
/-! ### ends -/
def spEnds (P : Program) (w : World) (N : Nm) (R : List Rl) : Sp := sp2 fun v u H Q => ∃ (G : GAd) (c : Nat) (SS : List AS) (KQ : List (List Pat)) (b : Addr) (σ : AS), v = .ref G.S ∧ u = .ref b ∧ GI P w N G R c SS KQ H ∧ KeyAt H (keyOf σ) b ∧ (∀ qs ∈ σ, qs ∈ KQ) ∧ σ.length ≤ 8 ∧
  ∀ l H', Same H H' → H' l = some (.lst ((σ.map (·.any bare)).map V.bl)) → Q (.ref l) H'
theorem scEnds : FnScope ["self", "state", "some", "told"] ["self", "state"] (defScope sBookgrowerEnds) := ⟨rfl, rfl, rfl, by decide +kernel, rfl, by decide +kernel, by decide +kernel⟩
theorem pr_get {α : Type} {Rr : List Str → α → Prop} : ∀ {ks : NKey} {bs : List α} {i : Nat} {b : α}, Paired Rr ks bs → bs[i]? = some b → ∃ k, ks[i]? = some k ∧ Rr k b
  | _, _, 0, b, .cons h t, e => by cases e; exact ⟨_, rfl, h⟩
  | _, _, i + 1, b, .cons h t, e => by
    obtain ⟨k, h1, h2⟩ := pr_get (i := i) t e
    exact ⟨k, h1, h2⟩
theorem pr_len {α : Type} {Rr : List Str → α → Prop} {ks : NKey} {bs : List α} (h : Paired Rr ks bs) : ks.length = bs.length := h.length
theorem key_get {H : Hp} {σ : AS} {b : Addr} {bs : List Addr} (h : Paired (fun (ks : List Str) b => H b = some (.tup (ks.map V.str))) (keyOf σ) bs) {i : Nat} (hi : i < bs.length) : ∃ qs, σ[i]? = some qs ∧ H bs[i] = some (strT (pens qs)) := by
  obtain ⟨k, h1, h2⟩ := pr_get h (List.getElem?_eq_getElem hi)
  unfold keyOf at h1
  rw [List.getElem?_map] at h1
  obtain ⟨qs, e1, e2⟩ := Option.map_eq_some_iff.mp h1
  subst e2
  exact ⟨qs, e1, h2⟩
theorem ok_ends (T : Tx K mg N) (ok : RulesOk R) : Met P w K mg base 14 N.grow "ends" (spEnds P w N R) [] := by
  refine T.m_BookGrower_ends.met scEnds (fun _ _ _ _ _ _ us hl => match us, hl with | [_, _], _ => rfl) len2 (fun f cdv A outer s H vs Q E hr h => ?_)
  obtain ⟨_, _, rfl, G, c, SS, KQ, b, σ, rfl, rfl, gi, ⟨bs, hb, hbs⟩, hkq, h8, k⟩ := h
  have hu := hu_of hr
  have hg := gfs_look G
  refine ⟨_, pss_one (ps_ret (pe_lc (own := [("some", 2)]) (g := gName 2) (tt := tYes) (te := tCall (spAnyBare N) [] C8.E0 (tCons (tLc (iTup K (tVar 2)) (gName 3) tYes (tDGet (tFld K (tVar 0) "patterns") (tVar 3)) [3]) tNil)) rfl scEnds.nd (pi_tup (pv 1)) (blkOk_by (N := ["self", "state", "some", "told"]) (sc := defScope sBookgrowerEnds) (by decide +kernel))
      (fun _ _ _ _ _ => pg_name (i := 2) scEnds.nd rfl (Or.inl rfl)) (fun _ _ _ _ _ => pts_nil) (fun _ _ _ _ _ => pe_c (ok_any_bare T) hr (Nat.le_refl _) rfl (pa_cons
        (by exact (pe_lc (own := [("told", 3)]) (g := gName 3) (tt := tYes) rfl scEnds.nd (pi_tup (pv 2)) (blkOk_by (N := ["self", "state", "some", "told"]) (by kernel_rfl))
          (fun _ _ _ _ _ => pg_name (i := 3) scEnds.nd rfl (Or.inl rfl)) (fun _ _ _ _ _ => pts_nil) (fun _ _ _ _ _ => pe_dget hu (pe_fld (pv 0) rfl) (pv 3) (fun _ _ => rfl)))) pa_nil)))), ?_⟩
  have hbl : bs.length = σ.length := by rw [← hbs.length]; exact List.length_map ..
  refine ⟨_, rfl, b, rfl, ⟨_, SqT.of hb⟩, fun D hD => rd_lc walk_tup yat_eq hD (by rw [List.length_map]; omega) (fun j y H' => ∃ qs, σ[j]? = some qs ∧ y = .bl (qs.any bare)) (fun j y H1 H2 z q => q)
    (fun H' s' => SqT.of (s' _ _ hb)) (fun j x H' C hj y s' k' => ?_) (fun H' acc s' hacc hl2 hf => ?_)⟩
  · rw [List.length_map] at hj
    have hy := y.2
    rw [List.getElem?_map, List.getElem?_eq_getElem hj] at hy
    have e1 : V.ref bs[j] = x := Option.some.inj hy
    subst e1
    obtain ⟨qs, e2, e3⟩ := key_get (b := b) hbs hj
    have hqk := hkq qs (List.mem_of_getElem? e2)
    have gi' := gi.same s'
    obtain ⟨C0, sh, va⟩ := gi'
    have vq := (va.kq qs hqk).1
    have hl := vq.len ok
    refine ⟨_, rfl, bs[j], rfl, ⟨_, SqT.of (s' _ _ e3)⟩, fun D2 hD2 => rd_lc walk_tup yat_eq hD2 (by unfold pens; rw [List.length_map, List.length_map]; omega) (fun j y H' => ∃ q a, qs[j]? = some q ∧ y = .ref a ∧ PatAt N H' q a) (fun j y H1 H2 z ⟨q, a, h1, h2, h3⟩ => ⟨q, a, h1, h2, h3.fz z⟩)
      (fun H2 s2 => SqT.of (s2 _ _ (s' _ _ e3))) (fun i z H2 C2 hi y2 s2 k2 => ?_) (fun H2 acc s2 hacc hl2 hf => ?_)⟩
    · have hy2 := y2.2
      rw [List.length_map] at hi
      unfold pens at hi hy2
      rw [List.length_map] at hi
      rw [List.getElem?_map, List.getElem?_map, List.getElem?_eq_getElem hi] at hy2
      have e4 : V.str (penS qs[i]) = z := Option.some.inj hy2
      subst e4
      have sh2 : Shape P w N G R C0 H2 := sh.keep (fz_same s2) (fun x o => by
        obtain ⟨u, e, _⟩ := sh.there o
        rw [e, s2 _ _ e])
      obtain ⟨a, e5, e6⟩ := (va.fz (fz_same s2)).look ok hqk (List.getElem_mem hi)
      refine ⟨_, rfl, G.S, _, _, _, _, rfl, sh2.self, T.cl_BookGrower, T.na_BookGrower_patterns, hg.2.2.2.1, _, rfl, G.dp, .ref a, rfl, ?_, k2 _ H2 (Same.refl H2) ⟨_, a, List.getElem?_eq_getElem hi, rfl, e6⟩⟩
      have q := DGet.k (k := Sum.inr (penS qs[i])) sh2.pt
      rw [e5] at q
      exact q
    · unfold pens at hl2 hf
      rw [List.length_map, List.length_map] at hl2 hf
      obtain ⟨as, ea, has⟩ := acc_pats hl2 hf
      subst ea
      exact ⟨_, rfl, D2, qs, rfl, ⟨as, hacc, has⟩, fun p hp => dd_sz ok (vq.dd p hp), hl, fun H3 s3 => k' _ H3 (s2.trans s3) ⟨qs, e2, rfl⟩⟩
  · rw [List.length_map] at hl2 hf
    have e6 : acc = (σ.map (·.any bare)).map V.bl := by
      rw [List.map_map]
      exact acc_map (f := V.bl ∘ (fun qs : List Pat => qs.any bare)) hbl hl2 hf
    subst e6
    exact k D H' s' hacc
end
end KG
end
section
set_option Elab.async false
set_option linter.all false
set_option autoImplicit false
set_option maxRecDepth 100000
set_option maxHeartbeats 4000000
/-! ## BookGrower: forms_here, goes_on -/
namespace KG
open PySem PySem.Spec PyProof.Rows L2 KM
open C8 (Cal Met Mak pe_c pe_mk pe_mt pe_mt0)
open KN (NKey NDict KeyAt ND NEnt)
section
variable {P : Program} {w : World} {N : Nm} {G : GAd} {R : List Rl} {C : Ct} {c : Nat} {SS : List AS} {KQ : List (List Pat)} {H H' : Hp}
theorem nd_but {a t : Addr} {kvs : List (NKey × V)} (h : NDict P w H a kvs) (n : a ≠ t) (b : But t H H') (z : Fz H H') : NDict P w H' a kvs := by
  obtain ⟨es, e⟩ := nd_some h
  exact nd_keep h (by rw [e]; exact b _ _ n e) z
theorem nd_fz {a : Addr} {kvs : List (NKey × V)} (h : NDict P w H a kvs) (b : But a H H') : Fz H H' := by
  obtain ⟨es, e⟩ := nd_some h
  exact b.fz e (fun z => z)
theorem Shape.sep (h : Shape P w N G R C H) : G.ls ≠ G.dn ∧ G.ls ≠ G.db ∧ G.ls ≠ G.df ∧ G.dp ≠ G.dn ∧ G.dp ≠ G.db ∧ G.dp ≠ G.df ∧ G.ls ≠ G.dp := by
  obtain ⟨e1, f1⟩ := nd_some h.nd
  obtain ⟨e2, f2⟩ := nd_some h.bd
  obtain ⟨e3, f3⟩ := nd_some h.fd
  exact ⟨ne_of h.st f1 (fun z => nomatch z), ne_of h.st f2 (fun z => nomatch z), ne_of h.st f3 (fun z => nomatch z), ne_of h.pt f1 (fun z => nomatch z), ne_of h.pt f2 (fun z => nomatch z), ne_of h.pt f3 (fun z => nomatch z), ne_of h.st h.pt (fun z => nomatch z)⟩
theorem Shape.setF (h : Shape P w N G R C H) (b : But G.df H H') {fk' : List (NKey × V)} (nd : NDict P w H' G.df fk') : Shape P w N G R ⟨C.as, C.nk, C.pk, C.bk, fk'⟩ H' := by
  have z := nd_fz h.fd b
  obtain ⟨rs, e1, e2⟩ := h.rules
  obtain ⟨s1, s2, s3, s4, s5, s6, s7⟩ := h.sep
  exact ⟨z _ _ True.intro h.self, ⟨rs, z _ _ True.intro e1, e2.fz z⟩, nd_but h.nd h.n2 b z, b _ _ s3 h.st, b _ _ s6 h.pt, nd_but h.bd h.n3 b z, nd, h.n1, h.n2, h.n3⟩
theorem Shape.setB (h : Shape P w N G R C H) (b : But G.db H H') {bk' : List (NKey × V)} (nd : NDict P w H' G.db bk') : Shape P w N G R ⟨C.as, C.nk, C.pk, bk', C.fk⟩ H' := by
  have z := nd_fz h.bd b
  obtain ⟨rs, e1, e2⟩ := h.rules
  obtain ⟨s1, s2, s3, s4, s5, s6, s7⟩ := h.sep
  exact ⟨z _ _ True.intro h.self, ⟨rs, z _ _ True.intro e1, e2.fz z⟩, nd_but h.nd h.n1 b z, b _ _ s2 h.st, b _ _ s5 h.pt, nd, nd_but h.fd (Ne.symm h.n3) b z, h.n1, h.n2, h.n3⟩
theorem Shape.setN (h : Shape P w N G R C H) (b : But G.dn H H') {nk' : List (NKey × V)} (nd : NDict P w H' G.dn nk') : Shape P w N G R ⟨C.as, nk', C.pk, C.bk, C.fk⟩ H' := by
  have z := nd_fz h.nd b
  obtain ⟨rs, e1, e2⟩ := h.rules
  obtain ⟨s1, s2, s3, s4, s5, s6, s7⟩ := h.sep
  exact ⟨z _ _ True.intro h.self, ⟨rs, z _ _ True.intro e1, e2.fz z⟩, nd, b _ _ s1 h.st, b _ _ s4 h.pt, nd_but h.bd (Ne.symm h.n1) b z, nd_but h.fd (Ne.symm h.n2) b z, h.n1, h.n2, h.n3⟩
theorem Shape.same (h : Shape P w N G R C H) (s : Same H H') : Shape P w N G R C H' := h.keep (fz_same s) fun x o => by
  obtain ⟨u, e, _⟩ := h.there o
  rw [e, s _ _ e]
theorem len_putK {κ : Type} [DecidableEq κ] (kvs : List (κ × V)) (k : κ) (v : V) : (putK kvs k v).length ≤ kvs.length + 1 := by
  unfold putK
  split
  · rw [List.length_map]; omega
  · simp
theorem val_put {κ : Type} [DecidableEq κ] {kvs : List (κ × V)} {k j : κ} {v u : V} (h : valV (putK kvs k v) j = some u) : (j = k ∧ u = v) ∨ valV kvs j = some u := by
  rw [valV_put] at h
  split at h
  · rename_i e; exact .inl ⟨e, (Option.some.inj h).symm⟩
  · exact .inr h
theorem Valid.setF (h : Valid N R C c SS KQ H) {σ : AS} {t : Addr} (g : Good R σ) (e : H t = some (.tup ((formsOf R σ).map V.str))) : Valid N R ⟨C.as, C.nk, C.pk, C.bk, putK C.fk (keyOf σ) (.ref t)⟩ (c + 1) SS KQ H :=
  ⟨h.len, h.few, h.key, h.good, h.kq, h.nkl, h.nkv, h.pkn, h.pkv, Nat.le_succ_of_le h.bkl, h.bkv, Nat.le_trans (len_putK _ _ _) (Nat.succ_le_succ h.fkl), fun κ v q => by
    rcases val_put q with ⟨e1, e2⟩ | q
    · exact ⟨σ, t, e1, g, e2, e⟩
    · exact h.fkv κ v q⟩
theorem Valid.setB (h : Valid N R C c SS KQ H) {qs qs' : List Pat} {fs : List Str} {t : Addr} (v : VQ R qs) (e : H t = some (.tup ((pens qs').map V.str))) (s : StepRel fs qs qs') (m : qs' ∈ KQ) : Valid N R ⟨C.as, C.nk, C.pk, putK C.bk [pens qs, fs] (.ref t), C.fk⟩ (c + 1) SS KQ H :=
  ⟨h.len, h.few, h.key, h.good, h.kq, h.nkl, h.nkv, h.pkn, h.pkv, Nat.le_trans (len_putK _ _ _) (Nat.succ_le_succ h.bkl), fun κ u q => by
    rcases val_put q with ⟨e1, e2⟩ | q
    · exact ⟨qs, fs, qs', t, e1, v, e2, e, s, m⟩
    · exact h.bkv κ u q, Nat.le_succ_of_le h.fkl, h.fkv⟩
end
/-- the forms of the first j rules -/
def fofJ (R : List Rl) (σ : AS) (j : Nat) : List Str := (((R.zip σ).take j).filter fun x => x.2.any bare).map fun x => x.1.1
theorem fof_all {R : List Rl} {σ : AS} (h : σ.length = R.length) : fofJ R σ R.length = formsOf R σ := by
  unfold fofJ formsOf
  rw [List.take_of_length_le (by rw [List.length_zip]; omega)]
theorem fof_next {R : List Rl} {σ : AS} {j : Nat} {r : Rl} {qs : List Pat} (h1 : R[j]? = some r) (h2 : σ[j]? = some qs) : fofJ R σ (j + 1) = fofJ R σ j ++ (if qs.any bare then [r.1] else []) := by
  unfold fofJ
  have e : (R.zip σ)[j]? = some (r, qs) := by rw [List.getElem?_zip_eq_some]; exact ⟨h1, h2⟩
  rw [take_snoc e, List.filter_append, List.map_append]
  congr 1
  cases hb : qs.any bare <;> simp [List.filter, hb]
section
variable {P : Program} {w : World} {K : PySem.W.Frag} {mg : Str → Option Value} {base : Heap} {N : Nm} {R : List Rl}
def spForms (P : Program) (w : World) (N : Nm) (R : List Rl) : Sp := sp2 fun v u H Q => ∃ (G : GAd) (c : Nat) (SS : List AS) (KQ : List (List Pat)) (b : Addr) (σ : AS), v = .ref G.S ∧ u = .ref b ∧ GI P w N G R c SS KQ H ∧ KeyAt H (keyOf σ) b ∧ Good R σ ∧ (∀ qs ∈ σ, qs ∈ KQ) ∧ c < 9000000 ∧
  ∀ t H', Bt G H H' → GI P w N G R (c + 1) SS KQ H' → H' t = some (strT (formsOf R σ)) → Q (.ref t) H'
theorem scForms : FnScope ["self", "state", "ends", "k"] ["self", "state"] (defScope sBookgrowerFormsHere) := ⟨rfl, rfl, rfl, by decide +kernel, rfl, by decide +kernel, by decide +kernel⟩
theorem ok_forms (T : Tx K mg N) (ok : RulesOk R) : Met P w K mg base 15 N.grow "forms_here" (spForms P w N R) [] := by
  refine T.m_BookGrower_forms_here.met scForms (fun _ _ _ _ _ _ us hl => match us, hl with | [_, _], _ => rfl) len2 (fun f cdv A outer s H vs Q E hr h => ?_)
  obtain ⟨_, _, rfl, G, c, SS, KQ, b, σ, rfl, rfl, gi, hkey, good, hkq, hc, k⟩ := h
  have hu := hu2_of hr
  have hg := gfs_look G
  refine ⟨_, pss_cons (ps_if (pt_cmp (KN.pc_nnotin hu (pv 1) (pe_fld (pv 0) rfl)))
      (pss_cons (ps_set (i := 2) scForms.nd rfl (Or.inr rfl) (pe_mt (ok_ends T ok) hr (Nat.le_refl _) (pv 0) (pa_cons (pv 1) pa_nil)))
        (pss_one (KN.ps_nput hu (pe_fld (pv 0) rfl) (pv 1) (pe_callTy call_tuple_of rfl T.z_tuple boot_tuple (pa_cons
          (pe_lc (own := [("k", 3)]) (g := gName 3) (tt := tB (tOp (rIxL K) (tVar 2) (tVar 3))) (te := tOp (rIxT K) (tOp (rIxT K) (tFld K (tVar 0) "rules") (tVar 3)) (tC (.int 0))) rfl scForms.nd
            (pi_range1 (by rfl) T.z_range (pa_cons (pe_callB call_len_seq (by rfl) T.z_len PySem.boot_len (pa_cons (pv 2) pa_nil)) pa_nil)) (blkOk_by (N := ["self", "state", "ends", "k"]) (sc := defScope sBookgrowerFormsHere) (by decide +kernel))
            (fun _ _ _ _ _ => pg_name (i := 3) scForms.nd rfl (Or.inl rfl)) (fun _ _ _ _ _ => pts_one (pt_val (pe_ix ix_list (pv 2) (pv 3) (fun _ _ => rfl)))) (fun _ _ _ _ _ => pe_ix ix_tup (pe_ix ix_tup (pe_fld (pv 0) rfl) (pv 3) (fun _ _ => rfl)) pe_int (fun _ _ => rfl))) pa_nil)) rfl))) pss_nil)
    (pss_one (ps_ret (KN.pe_nget hu (pe_fld (pv 0) rfl) (pv 1) (fun _ _ => rfl)))), ?_⟩
  obtain ⟨C, sh, va⟩ := id gi
  refine ⟨_, rfl, _, rfl, G.S, _, _, _, _, rfl, sh.self, T.cl_BookGrower, T.na_BookGrower_formed, hg.2.2.2.2.2, G.df, C.fk, keyOf σ, b, rfl, rfl, sh.fd, hkey, _, rfl, ?_⟩
  cases ef : valV C.fk (keyOf σ) with
  | some v =>
    refine iteF ?_
    obtain ⟨σ0, t, e1, e2, e3, e4⟩ := va.fkv _ _ ef
    have e5 := key_inj ok e2 good e1.symm
    subst e5
    subst e3
    exact ⟨_, rfl, G.S, _, _, _, _, rfl, sh.self, T.cl_BookGrower, T.na_BookGrower_formed, hg.2.2.2.2.2, _, rfl, G.df, C.fk, keyOf σ0, b, _, rfl, rfl, sh.fd, hkey, ef, k t H (Bt.refl G H) (gi.more (Nat.le_succ c)) e4⟩
  | none =>
    refine iteT ?_
    have h8 : σ.length ≤ 8 := by rw [good.1]; exact ok.1
    refine ⟨_, rfl, G.S, _, _, rfl, sh.self, gfs_none G (by decide +kernel) (by decide +kernel) (by decide +kernel) (by decide +kernel) (by decide +kernel) (by decide +kernel), _, rfl, _, _, rfl, G, c, SS, KQ, b, σ, rfl, rfl, gi, hkey, hkq, h8, fun l H1 s1 hl => ?_⟩
    have sh1 := sh.same s1
    have va1 := va.fz (fz_same s1)
    refine ⟨_, rfl, l, _, rfl, .inl (SqL.of hl), (σ.length : Int), by rw [List.length_map, List.length_map], by omega, by omega, fun D hD => ?_⟩
    obtain ⟨rs, hrs1, hrs2⟩ := sh1.rules
    refine rd_lcT (n := (σ.length : Int).toNat) walk_range yfn_eq (fun j acc H2 => Same H1 H2 ∧ acc = (fofJ R σ j).map V.str) ⟨same_new hD _, rfl⟩ (fun _ _ _ _ => True.intro) (fun j x H2 acc Ct Cf hj y ⟨s2, ea⟩ hacc hal kt kf => ?_) (fun H2 acc ⟨s2, ea⟩ hacc hal => ?_)
    · rw [Int.toNat_natCast] at hj
      have ey : x = .int (j : Int) := by
        rw [y.2]
        show V.int (0 + (j : Int)) = _
        rw [Int.zero_add]
      subst ey
      have hjR : j < R.length := by rw [← good.1]; exact hj
      have hjr : j < rs.length := by rw [hrs2.1]; exact hjR
      have e1 : R[j]? = some R[j] := List.getElem?_eq_getElem hjR
      have e2 : σ[j]? = some σ[j] := List.getElem?_eq_getElem hj
      have e3 := fof_next e1 e2
      refine ⟨_, rfl, _, rfl, l, _, _, _, rfl, rfl, SqL.of (s2 _ _ hl), atI_nat (j := j) (v := .bl ((σ[j]).any bare)) (by rw [List.getElem?_map, List.getElem?_map, e2]; rfl), _, rfl, ?_⟩
      cases eb : (σ[j]).any bare with
      | false =>
        refine iteF ?_
        refine kf H2 hacc ⟨s2, ?_⟩
        rw [e3, eb, if_neg Bool.false_ne_true, List.append_nil]
        exact ea
      | true =>
        refine iteT ?_
        have sh2 := sh1.same s2
        obtain ⟨pb, g1, g2⟩ := hrs2.2 j _ _ e1 (List.getElem?_eq_getElem hjr)
        refine ⟨_, rfl, G.S, _, _, _, _, rfl, sh2.self, T.cl_BookGrower, T.na_BookGrower_rules, hg.2.2.1, _, rfl, G.tr, _, _, _, rfl, rfl, SqT.of (s2 _ _ hrs1), atI_nat (j := j) (v := .ref rs[j]) (by rw [List.getElem?_map, List.getElem?_eq_getElem hjr]; rfl), rs[j], _, _, _, rfl, rfl, SqT.of (s2 _ _ g1), at0, ?_⟩
        refine kt _ H2 hacc (by rw [sizeLine_eq]; omega) ⟨fun b o e => ?_, ?_⟩
        · rw [upd_ne (ne_of_none e hD)]
          exact s2 _ _ e
        · rw [e3, eb, if_pos rfl, List.map_append, ← ea]
          rfl
    · rw [Int.toNat_natCast, good.1, fof_all good.1] at ea
      subst ea
      refine ⟨D, _, rfl, .inl ⟨SqL.of hacc, fun t ht0 => ?_⟩⟩
      have s3 : Same H2 (upd H2 t (.tup ((formsOf R σ).map V.str))) := same_new ht0 _
      have s13 := s2.trans s3
      have sh3 := sh1.same s13
      have va3 := va1.fz (fz_same s13)
      have et : upd H2 t (.tup ((formsOf R σ).map V.str)) t = some (strT (formsOf R σ)) := upd_same
      generalize upd H2 t (.tup ((formsOf R σ).map V.str)) = H3 at *
      have hk3 := key_fz hkey (fz_same (s1.trans s13))
      refine ⟨_, rfl, G.S, _, _, _, _, rfl, sh3.self, T.cl_BookGrower, T.na_BookGrower_formed, hg.2.2.2.2.2, _, rfl, G.df, C.fk, keyOf σ, b, rfl, rfl, sh3.fd, by have := va.fkl; rw [sizeLine_eq]; omega, hk3, fun H4 b1 b2 nd => ?_⟩
      have bt4 : But G.df H3 H4 := fun x o n e => b1 x o n e
      have z := nd_fz sh3.fd bt4
      have sh4 := sh3.setF bt4 nd
      have va4 := (va3.setF good et).fz z
      refine ⟨_, rfl, G.S, _, _, _, _, rfl, sh4.self, T.cl_BookGrower, T.na_BookGrower_formed, hg.2.2.2.2.2, _, rfl, G.df, _, keyOf σ, b, .ref t, rfl, rfl, sh4.fd, key_fz hk3 z, by rw [valV_put, if_pos rfl], ?_⟩
      exact k t H4 ((bt_same (s1.trans s13)).trans (bt_but (.inr (.inr (.inr (.inr rfl)))) bt4)) ⟨_, sh4, va4⟩ (z _ _ True.intro et)
end
end KG
end
section
set_option Elab.async false
set_option linter.all false
set_option autoImplicit false
set_option maxRecDepth 100000
set_option maxHeartbeats 4000000
/-! ## BookGrower: goes_on, step, start -/
namespace KG
open PySem PySem.Spec PyProof.Rows L2 KM
open C8 (Cal Met Mak pe_c pe_mk pe_mt pe_mt0)
open KN (NKey NDict KeyAt ND NEnt)
theorem GI.vq {P : Program} {w : World} {N : Nm} {G : GAd} {R : List Rl} {c : Nat} {SS : List AS} {KQ : List (List Pat)} {H : Hp} (h : GI P w N G R c SS KQ H) {qs : List Pat} (m : qs ∈ KQ) : VQ R qs := by
  obtain ⟨C, _, va⟩ := h
  exact (va.kq qs m).1
theorem vq_left {R : List Rl} (ok : RulesOk R) {qs : List Pat} {fs : List Str} (h : VQ R qs) : VQ R (once (leftAll fs qs)) := by
  obtain ⟨n, r, hr, k⟩ := h
  refine ⟨nodup_once _, r, hr, fun x hx => ?_⟩
  obtain ⟨q, hq, hx2⟩ := leftAll_iff.mp ((mem_once _).mp hx)
  exact (closed _ (ok.2 r hr).1).2.2 q (k q hq) fs x hx2
section
variable {P : Program} {w : World} {K : PySem.W.Frag} {mg : Str → Option Value} {base : Heap} {N : Nm} {R : List Rl}
def spGoes (P : Program) (w : World) (N : Nm) (R : List Rl) : Sp := sp3 fun v u z H Q => ∃ (G : GAd) (c : Nat) (SS : List AS) (KQ : List (List Pat)) (t1 t2 : Addr) (qs : List Pat) (fs : List Str), v = .ref G.S ∧ u = .ref t1 ∧ z = .ref t2 ∧ GI P w N G R c SS KQ H ∧ H t1 = some (strT (pens qs)) ∧ H t2 = some (strT fs) ∧ qs ∈ KQ ∧ c < 9000000 ∧
  ∀ t qs' KQ' H', Bt G H H' → GI P w N G R (c + 1) SS KQ' H' → (∀ x ∈ KQ, x ∈ KQ') → qs' ∈ KQ' → StepRel fs qs qs' → H' t = some (strT (pens qs')) → Q (.ref t) H'
theorem scGoes : FnScope ["self", "some", "forms", "patterns", "told"] ["self", "some", "forms"] (defScope sBookgrowerGoesOn) := ⟨rfl, rfl, rfl, by decide +kernel, rfl, by decide +kernel, by decide +kernel⟩
theorem ok_goes (T : Tx K mg N) (ok : RulesOk R) : Met P w K mg base 42 N.grow "goes_on" (spGoes P w N R) [] := by
  refine T.m_BookGrower_goes_on.met scGoes (fun _ _ _ _ _ _ us hl => match us, hl with | [_, _, _], _ => rfl) len3 (fun f cdv A outer s H vs Q E hr h => ?_)
  obtain ⟨_, _, _, rfl, G, c, SS, KQ, t1, t2, qs, fs, rfl, rfl, rfl, gi, ht1, ht2, hq, hc, k⟩ := h
  have hu := hu2_of hr
  have hg := gfs_look G
  have vq := gi.vq hq
  refine ⟨_, pss_cons (ps_if (pt_cmp (KN.pc_nnotin hu (pe_tup (pa_cons (pv 1) (pa_cons (pv 2) pa_nil))) (pe_fld (pv 0) rfl)))
      (pss_cons (ps_setLc (i := 3) (own := [("told", 4)]) (g := gName 4) (tt := tYes) (te := tDGet (tFld K (tVar 0) "patterns") (tVar 4)) rfl scGoes.nd rfl rfl (sw_true rfl rfl rfl (by decide +kernel)) (pi_tup (pv 1)) (blkOk_by (N := ["self", "some", "forms", "patterns", "told"]) (sc := defScope sBookgrowerGoesOn) (by decide +kernel))
          (fun _ _ _ _ _ => pg_name (i := 4) scGoes.nd rfl (Or.inl rfl)) (fun _ _ _ _ _ => pts_nil) (fun _ _ _ _ _ => pe_dget (hu_of hr) (pe_fld (pv 0) rfl) (pv 4) (fun _ _ => rfl)))
        (pss_one (KN.ps_nput hu (pe_fld (pv 0) rfl) (pe_tup (pa_cons (pv 1) (pa_cons (pv 2) pa_nil))) (pe_mt (ok_kept T ok) hr (by decide) (pv 0) (pa_cons (pe_c (ok_all_left T) hr (by decide) rfl (pa_cons (pv 3) (pa_cons (pv 2) pa_nil))) pa_nil)) rfl))) pss_nil)
    (pss_one (ps_ret (KN.pe_nget hu (pe_fld (pv 0) rfl) (pe_tup (pa_cons (pv 1) (pa_cons (pv 2) pa_nil))) (fun _ _ => rfl)))), ?_⟩
  have keyt : ∀ {H2 : Hp} {p : Addr}, H2 t1 = some (strT (pens qs)) → H2 t2 = some (strT fs) → H2 p = some (.tup [.ref t1, .ref t2]) → KeyAt H2 [pens qs, fs] p := fun h1 h2 h3 => ⟨[t1, t2], h3, .cons h1 (.cons h2 .nil)⟩
  refine ⟨_, rfl, _, rfl, (by show 2 ≤ sizeLine; decide), fun p hp0 => ?_⟩
  have s1 : Same H (upd H p (.tup [.ref t1, .ref t2])) := same_new hp0 _
  have ep : upd H p (.tup [.ref t1, .ref t2]) p = some (.tup [.ref t1, .ref t2]) := upd_same
  generalize upd H p (.tup [.ref t1, .ref t2]) = H1 at *
  have gi1 := gi.same s1
  obtain ⟨C, sh, va⟩ := id gi1
  refine ⟨_, rfl, G.S, _, _, _, _, rfl, sh.self, T.cl_BookGrower, T.na_BookGrower_behind, hg.2.2.2.2.1, G.db, C.bk, [pens qs, fs], p, rfl, rfl, sh.bd, keyt (s1 _ _ ht1) (s1 _ _ ht2) ep, _, rfl, ?_⟩
  -- behind the if
  cases ef : valV C.bk [pens qs, fs] with
  | some v =>
    refine iteF ?_
    obtain ⟨qs0, fs0, qs', t, e1, e2, e3, e4, e5, e6⟩ := va.bkv _ _ ef
    injection e1 with e7 e8
    injection e8 with e8 _
    have e9 : qs = qs0 := pens_inj (fun q hq2 => (dd_ok ok (vq.dd q hq2)).1) (fun q hq2 => (dd_ok ok (e2.dd q hq2)).1) e7
    subst e9 e8 e3
    refine ⟨_, rfl, G.S, _, _, _, _, rfl, sh.self, T.cl_BookGrower, T.na_BookGrower_behind, hg.2.2.2.2.1, _, rfl, _, rfl, (by show 2 ≤ sizeLine; decide), fun p2 hp2 => ?_⟩
    have s2 : Same H1 (upd H1 p2 (.tup [.ref t1, .ref t2])) := same_new hp2 _
    have s12 := s1.trans s2
    refine ⟨G.db, C.bk, [pens qs, fs], p2, _, rfl, rfl, (sh.same s2).bd, keyt (s12 _ _ ht1) (s12 _ _ ht2) upd_same, ef, ?_⟩
    exact k t qs' KQ _ (bt_same s12) ((gi.same s12).more (Nat.le_succ c)) (fun x hx => hx) e6 e5 (s2 _ _ e4)
  | none =>
    refine iteT ?_
    refine ⟨_, rfl, t1, rfl, ⟨_, SqT.of (s1 _ _ ht1)⟩, fun D hD => ?_⟩
    have hl := vq.len ok
    refine rd_lc walk_tup yat_eq hD (by unfold pens; rw [List.length_map, List.length_map]; omega) (fun j y H' => ∃ q a, qs[j]? = some q ∧ y = .ref a ∧ PatAt N H' q a) (fun j y H1 H2 z ⟨q, a, h1, h2, h3⟩ => ⟨q, a, h1, h2, h3.fz z⟩)
      (fun H2 s2 => SqT.of (s2 _ _ (s1 _ _ ht1))) (fun i z H2 C2 hi y2 s2 k2 => ?_) (fun H2 acc s2 hacc hl2 hf => ?_)
    · have hy2 := y2.2
      rw [List.length_map] at hi
      unfold pens at hi hy2
      rw [List.length_map] at hi
      rw [List.getElem?_map, List.getElem?_map, List.getElem?_eq_getElem hi] at hy2
      have e4 : V.str (penS qs[i]) = z := Option.some.inj hy2
      subst e4
      have sh2 := sh.same s2
      obtain ⟨a, e5, e6⟩ := (va.fz (fz_same s2)).look ok hq (List.getElem_mem hi)
      refine ⟨_, rfl, G.S, _, _, _, _, rfl, sh2.self, T.cl_BookGrower, T.na_BookGrower_patterns, hg.2.2.2.1, _, rfl, G.dp, .ref a, rfl, ?_, k2 _ H2 (Same.refl H2) ⟨_, a, List.getElem?_eq_getElem hi, rfl, e6⟩⟩
      have q := DGet.k (k := Sum.inr (penS qs[i])) sh2.pt
      rw [e5] at q
      exact q
    · unfold pens at hl2 hf
      rw [List.length_map, List.length_map] at hl2 hf
      obtain ⟨as, ea, has⟩ := acc_pats hl2 hf
      subst ea
      have s12 := s1.trans s2
      have sh2 := sh.same s2
      refine ⟨_, rfl, G.S, _, _, rfl, sh2.self, gfs_none G (by decide +kernel) (by decide +kernel) (by decide +kernel) (by decide +kernel) (by decide +kernel) (by decide +kernel), ?_⟩
      refine ⟨_, rfl, _, rfl, _, _, rfl, D, qs, t2, fs, rfl, rfl, ⟨as, hacc, has⟩, s12 _ _ ht2, fun x hx => dd_sz ok (vq.dd x hx), hl, fun g H3 s3 hg3 => ?_⟩
      have s13 := s12.trans s3
      refine ⟨_, _, rfl, G, c, SS, KQ, g, once (leftAll fs qs), rfl, rfl, gi.same s13, hg3, vq_left ok vq, fun t qs' H4 b4 gi4 pm et => ?_⟩
      have z4 := (gi.same s13).btfz b4
      have st : StepRel fs qs qs' := fun x => by rw [pm.mem_iff, mem_once, leftAll_iff]
      obtain ⟨C4, sh4, va4⟩ := id gi4
      refine ⟨_, rfl, G.S, _, _, _, _, rfl, sh4.self, T.cl_BookGrower, T.na_BookGrower_behind, hg.2.2.2.2.1, _, rfl, _, rfl, (by show 2 ≤ sizeLine; decide), fun p3 hp3 => ?_⟩
      have s5 : Same H4 (upd H4 p3 (.tup [.ref t1, .ref t2])) := same_new hp3 _
      have ep3 : upd H4 p3 (.tup [.ref t1, .ref t2]) p3 = some (.tup [.ref t1, .ref t2]) := upd_same
      generalize upd H4 p3 (.tup [.ref t1, .ref t2]) = H5 at *
      have z5 : Fz H H5 := (fz_same s13).trans (z4.trans (fz_same s5))
      have sh5 := sh4.same s5
      have va5 := va4.fz (fz_same s5)
      have k5 := keyt (z5 _ _ True.intro ht1) (z5 _ _ True.intro ht2) ep3
      refine ⟨G.db, C4.bk, [pens qs, fs], p3, rfl, rfl, sh5.bd, by have := va5.bkl; rw [sizeLine_eq]; omega, k5, fun H6 b1 b2 nd => ?_⟩
      have bt6 : But G.db H5 H6 := fun x o n e => b1 x o n e
      have z6 := nd_fz sh5.bd bt6
      have et5 := s5 _ _ et
      have sh6 := sh5.setB bt6 nd
      have va6 := (va5.setB vq et5 st List.mem_cons_self).fz z6
      refine ⟨_, rfl, G.S, _, _, _, _, rfl, sh6.self, T.cl_BookGrower, T.na_BookGrower_behind, hg.2.2.2.2.1, _, rfl, _, rfl, (by show 2 ≤ sizeLine; decide), fun p4 hp4 => ?_⟩
      have s7 : Same H6 (upd H6 p4 (.tup [.ref t1, .ref t2])) := same_new hp4 _
      have z7 := z5.trans (z6.trans (fz_same s7))
      refine ⟨G.db, _, [pens qs, fs], p4, .ref t, rfl, rfl, (sh6.same s7).bd, keyt (z7 _ _ True.intro ht1) (z7 _ _ True.intro ht2) upd_same, by rw [valV_put, if_pos rfl], ?_⟩
      exact k t qs' (qs' :: KQ) _ ((bt_same s13).trans (b4.trans ((bt_same s5).trans ((bt_but (.inr (.inr (.inr (.inl rfl)))) bt6).trans (bt_same s7))))) ⟨_, sh6.same s7, va6.fz (fz_same s7)⟩ (fun x hx => List.mem_cons_of_mem _ hx) List.mem_cons_self st (s7 _ _ (z6 _ _ True.intro et5))
/-! ### step -/
def StepAS (fs : List Str) (σ σ' : AS) : Prop := σ'.length = σ.length ∧ ∀ (i : Nat) (qs qs' : List Pat), σ[i]? = some qs → σ'[i]? = some qs' → StepRel fs qs qs'
theorem good_step (ok : RulesOk R) {fs : List Str} {σ σ' : AS} (g : Good R σ) (s : StepAS fs σ σ') (n : ∀ qs ∈ σ', qs.Nodup) : Good R σ' := by
  refine ⟨by rw [s.1, g.1], fun i r qs' e1 e2 => ⟨n qs' (List.mem_of_getElem? e2), fun x hx => ?_⟩⟩
  have hi : i < σ.length := by
    have := (List.getElem?_eq_some_iff.mp e2).1
    rw [s.1] at this
    exact this
  obtain ⟨q, hq, hx2⟩ := (s.2 i _ qs' (List.getElem?_eq_getElem hi) e2 x).mp hx
  have := (g.2 i r _ e1 (List.getElem?_eq_getElem hi)).2 q hq
  exact (closed _ (ok.2 r (List.mem_of_getElem? e1)).1).2.2 q this fs x hx2
def spStep (P : Program) (w : World) (N : Nm) (R : List Rl) : Sp := sp3 fun v u z H Q => ∃ (G : GAd) (c : Nat) (SS : List AS) (KQ : List (List Pat)) (a b : Addr) (σ τ : AS), v = .ref G.S ∧ u = .ref a ∧ z = .ref b ∧ GI P w N G R c SS KQ H ∧ KeyAt H (keyOf σ) a ∧ KeyAt H (keyOf τ) b ∧ Good R σ ∧ Good R τ ∧ (∀ qs ∈ σ, qs ∈ KQ) ∧ (∀ qs ∈ τ, qs ∈ KQ) ∧ c < 8000000 ∧
  ∀ t σ' KQ' H', Bt G H H' → GI P w N G R (c + 9) SS KQ' H' → (∀ x ∈ KQ, x ∈ KQ') → (∀ qs ∈ σ', qs ∈ KQ') → Good R σ' → StepAS (formsOf R τ) σ σ' → KeyAt H' (keyOf σ') t → Q (.ref t) H'
theorem scStep : FnScope ["self", "one", "other", "forms", "some"] ["self", "one", "other"] (defScope sBookgrowerStep) := ⟨rfl, rfl, rfl, by decide +kernel, rfl, by decide +kernel, by decide +kernel⟩
theorem pr_mono {H H' : Hp} (z : Fz H H') {ks : NKey} {bs : List Addr} (h : Paired (fun (ks : List Str) b => H b = some (.tup (ks.map V.str))) ks bs) : Paired (fun (ks : List Str) b => H' b = some (.tup (ks.map V.str))) ks bs := Paired.mapP h fun _ _ e => z _ _ True.intro e
theorem pr_snoc {α : Type} {Rr : List Str → α → Prop} {k : List Str} {b : α} (h : Rr k b) : ∀ {ks : NKey} {bs : List α}, Paired Rr ks bs → Paired Rr (ks ++ [k]) (bs ++ [b])
  | _, _, .nil => .cons h .nil
  | _, _, .cons a t => .cons a (pr_snoc h t)
theorem ok_step (T : Tx K mg N) (ok : RulesOk R) : Met P w K mg base 43 N.grow "step" (spStep P w N R) [] := by
  refine T.m_BookGrower_step.met scStep (fun _ _ _ _ _ _ us hl => match us, hl with | [_, _, _], _ => rfl) len3 (fun f cdv A outer s H vs Q E hr h => ?_)
  obtain ⟨_, _, _, rfl, G, c, SS, KQ, a, b, σ, τ, rfl, rfl, rfl, gi, ka, kb, ga, gb, qa, qb, hc, k⟩ := h
  have hgn := fun (m : Str) h1 h2 h3 h4 h5 h6 => gfs_none G (m := m) h1 h2 h3 h4 h5 h6
  refine ⟨_, pss_cons (ps_set (i := 3) scStep.nd rfl (Or.inr rfl) (pe_mt (ok_forms T ok) hr (by decide) (pv 0) (pa_cons (pv 2) pa_nil)))
    (pss_one (ps_ret (pe_callTy call_tuple_of rfl T.z_tuple boot_tuple (pa_cons
      (pe_lc (own := [("some", 4)]) (g := gName 4) (tt := tYes) (te := tMeth N.grow "goes_on" (spGoes P w N R) [] C8.E0 (tVar 0) (tCons (tVar 4) (tCons (tVar 3) tNil))) rfl scStep.nd (pi_tup (pv 1)) (blkOk_by (N := ["self", "one", "other", "forms", "some"]) (sc := defScope sBookgrowerStep) (by decide +kernel))
        (fun _ _ _ _ _ => pg_name (i := 4) scStep.nd rfl (Or.inl rfl)) (fun _ _ _ _ _ => pts_nil) (fun _ _ _ _ _ => pe_mt (ok_goes (P := P) (w := w) (base := base) T ok) hr (Nat.le_refl _) (pv 0) (pa_cons (pv 4) (pa_cons (pv 3) pa_nil)))) pa_nil)))), ?_⟩
  obtain ⟨C, sh, va⟩ := id gi
  refine ⟨_, rfl, G.S, _, _, rfl, sh.self, hgn _ (by decide +kernel) (by decide +kernel) (by decide +kernel) (by decide +kernel) (by decide +kernel) (by decide +kernel), _, rfl, _, _, rfl, G, c, SS, KQ, b, τ, rfl, rfl, gi, kb, gb, qb, by omega, fun t1 H1 b1 gi1 et1 => ?_⟩
  have z1 := gi.btfz b1
  obtain ⟨bs, hb, hbs⟩ := key_fz ka z1
  have hbl : bs.length = σ.length := by rw [← hbs.length]; exact List.length_map ..
  have h8 : σ.length ≤ 8 := by rw [ga.1]; exact ok.1
  refine ⟨_, rfl, a, rfl, ⟨_, SqT.of hb⟩, fun D hD => ?_⟩
  have nD := gi1.notown hD
  refine rd_lcT walk_tup yat_eq (fun j acc H2 => ∃ (KQ2 : List (List Pat)) (σp : AS) (ts : List Addr), acc = ts.map V.ref ∧ GI P w N G R (c + 1 + j) SS KQ2 H2 ∧ (∀ x ∈ KQ, x ∈ KQ2) ∧ (∀ qs ∈ σp, qs ∈ KQ2) ∧ Paired (fun (ks : List Str) b => H2 b = some (.tup (ks.map V.str))) (keyOf σp) ts ∧ σp.length = j ∧ (∀ (i : Nat) (qs qs' : List Pat), σ[i]? = some qs → σp[i]? = some qs' → StepRel (formsOf R τ) qs qs') ∧ Bt G H1 H2)
    ⟨KQ, [], [], rfl, gi1.same (same_new hD _), fun x hx => hx, fun qs hq => (by cases hq), .nil, rfl, fun i qs qs' _ e => (by simp at e), bt_same (same_new hD _)⟩ (fun j acc H2 ⟨_, _, _, _, _, _, _, _, _, _, b2⟩ => SqT.of ((gi1.btfz b2) _ _ True.intro hb)) (fun j x H2 acc Ct Cf hj y ⟨KQ2, σp, ts, ea, gi2, m1, m2, pr, lp, st, b2⟩ hacc hal kt kf => ?_) (fun H2 acc ⟨KQ2, σp, ts, ea, gi2, m1, m2, pr, lp, st, b2⟩ hacc hal => ?_)
  · rw [List.length_map] at hj
    have hy := y.2
    rw [List.getElem?_map, List.getElem?_eq_getElem hj] at hy
    have e1 : V.ref bs[j] = x := Option.some.inj hy
    subst e1
    obtain ⟨qs, e2, e3⟩ := key_get (b := a) hbs hj
    have hqk := m1 qs (qa qs (List.mem_of_getElem? e2))
    have z2 := gi1.btfz b2
    obtain ⟨C2, sh2, va2⟩ := id gi2
    refine iteT (B := Cf H2) ?_
    refine ⟨_, rfl, G.S, _, _, rfl, sh2.self, hgn _ (by decide +kernel) (by decide +kernel) (by decide +kernel) (by decide +kernel) (by decide +kernel) (by decide +kernel), _, rfl, _, rfl, _, _, _, rfl, G, c + 1 + j, SS, KQ2, bs[j], t1, qs, formsOf R τ, rfl, rfl, rfl, gi2, z2 _ _ True.intro e3, z2 _ _ True.intro et1, hqk, by omega, fun t qs' KQ3 H4 b4 gi4 m4 mq st4 et4 => ?_⟩
    have hD4 := b4 _ _ nD hacc
    have z4 := gi2.btfz b4
    have z5 : Fz H4 (upd H4 D (.lst (acc ++ [.ref t]))) := fz_updL hD4
    refine kt _ H4 hD4 (by rw [sizeLine_eq]; omega) ⟨KQ3, σp ++ [qs'], ts ++ [t], by rw [ea, List.map_append]; rfl, gi4.updL hD4 nD, fun x hx => m4 x (m1 x hx), fun q hq => ?_, ?_, by rw [List.length_append, lp]; rfl, fun i p p' f1 f2 => ?_, fun x o n e => by rw [upd_ne (ne_of_none e hD)]; exact b4 x o n (b2 x o n e)⟩
    · rcases List.mem_append.mp hq with hq | hq
      · exact m4 q (m2 q hq)
      · rw [List.mem_singleton.mp hq]; exact mq
    · have e5 : keyOf (σp ++ [qs']) = keyOf σp ++ [pens qs'] := by unfold keyOf; rw [List.map_append]; rfl
      rw [e5]
      exact pr_snoc (z5 t (strT (pens qs')) True.intro et4) (pr_mono (z4.trans z5) pr)
    · by_cases hi : i < σp.length
      · rw [List.getElem?_append_left hi] at f2
        exact st i p p' f1 f2
      · have hi2 : i = j := by
          have := (List.getElem?_eq_some_iff.mp f2).1
          rw [List.length_append] at this
          simp at this
          omega
        subst hi2
        rw [List.getElem?_append_right (by omega), lp] at f2
        simp at f2
        subst f2
        rw [e2] at f1
        cases f1
        exact st4
  · rw [List.length_map] at gi2 lp
    refine ⟨D, acc, rfl, .inl ⟨SqL.of hacc, fun t ht0 => ?_⟩⟩
    have s3 : Same H2 (upd H2 t (.tup acc)) := same_new ht0 _
    have sa : StepAS (formsOf R τ) σ σp := ⟨by rw [lp, hbl], st⟩
    refine k t σp KQ2 _ (b1.trans (b2.trans (bt_same s3))) ((gi2.same s3).more (by omega)) m1 m2 (good_step ok ga sa fun qs hq => (gi2.vq (m2 qs hq)).1) sa ⟨ts, by rw [upd_same, ea], pr_mono (fz_same s3) pr⟩
end
end KG
end
section
set_option Elab.async false
set_option linter.all false
set_option autoImplicit false
set_option maxRecDepth 100000
set_option maxHeartbeats 4000000
/-! ## BookGrower: start, number -/
namespace KG
open PySem PySem.Spec PyProof.Rows L2 KM
open C8 (Cal Met Mak pe_c pe_mk pe_mt pe_mt0)
open KN (NKey NDict KeyAt ND NEnt)
def startAS (R : List Rl) (nm : Str) : AS := R.map fun r => if r.2.1 = nm then [r.2.2] else []
theorem good_start {R : List Rl} (ok : RulesOk R) (nm : Str) : Good R (startAS R nm) := by
  refine ⟨List.length_map .., fun i r qs e1 e2 => ?_⟩
  unfold startAS at e2
  rw [List.getElem?_map, e1] at e2
  have e3 : (if r.2.1 = nm then [r.2.2] else []) = qs := Option.some.inj e2
  subst e3
  split
  · refine ⟨by simp, fun q hq => ?_⟩
    rw [List.mem_singleton.mp hq]
    exact (closed _ (ok.2 r (List.mem_of_getElem? e1)).1).1
  · exact ⟨List.nodup_nil, fun q hq => by cases hq⟩
theorem GI.addNil {P : Program} {w : World} {N : Nm} {G : GAd} {R : List Rl} {c : Nat} {SS : List AS} {KQ : List (List Pat)} {H : Hp} (h : GI P w N G R c SS KQ H) {r : Rl} (hr : r ∈ R) : GI P w N G R c SS ([] :: KQ) H := by
  obtain ⟨C, sh, va⟩ := h
  exact ⟨C, sh, va.addQ ⟨List.nodup_nil, r, hr, fun q hq => by cases hq⟩ fun q hq => by cases hq⟩
theorem pr_some {α : Type} {Rr : List Str → α → Prop} : ∀ {ks : NKey} {bs : List α}, Paired Rr ks bs → ks.length = bs.length
  | _, _, .nil => rfl
  | _, _, .cons _ t => by rw [List.length_cons, List.length_cons, pr_some t]
section
variable {P : Program} {w : World} {K : PySem.W.Frag} {mg : Str → Option Value} {base : Heap} {N : Nm} {R : List Rl}
def spStart (P : Program) (w : World) (N : Nm) (R : List Rl) : Sp := sp2 fun v u H Q => ∃ (G : GAd) (c : Nat) (SS : List AS) (KQ : List (List Pat)) (nm : Str), v = .ref G.S ∧ u = .str nm ∧ GI P w N G R c SS KQ H ∧
  ∀ t KQ' H', Bt G H H' → GI P w N G R c SS KQ' H' → (∀ x ∈ KQ, x ∈ KQ') → (∀ qs ∈ startAS R nm, qs ∈ KQ') → KeyAt H' (keyOf (startAS R nm)) t → Q (.ref t) H'
theorem scStart : FnScope ["self", "name", "found", "rule"] ["self", "name"] (defScope sBookgrowerStart) := ⟨rfl, rfl, rfl, by decide +kernel, rfl, by decide +kernel, by decide +kernel⟩
theorem ok_start (T : Tx K mg N) (ok : RulesOk R) : Met P w K mg base 27 N.grow "start" (spStart P w N R) [] := by
  refine T.m_BookGrower_start.met scStart (fun _ _ _ _ _ _ us hl => match us, hl with | [_, _], _ => rfl) len2 (fun f cdv A outer s H vs Q E hr h => ?_)
  obtain ⟨_, _, rfl, G, c, SS, KQ, nm, rfl, rfl, gi, k⟩ := h
  have hg := gfs_look G
  refine ⟨_, pss_cons (ps_set (i := 2) scStart.nd rfl (Or.inl rfl) (pe_lst pa_nil))
    (pss_cons (ps_for PassesOwn.never rfl (pi_tup (pe_fld (pv 0) rfl)) (pg_name (i := 3) scStart.nd rfl (Or.inl rfl))
      (pss_one (ps_if (pt_cmpR op_eq (pe_ix ix_tup (pv 3) pe_int (fun _ _ => rfl)) (pv 1) (nomark _))
        (pss_one (ps_expr (pe_bm PySem.F.plainAttrs_list PySem.F.slot_list_append PySem.F.type_list_append mt_append (pv 2) (pa_cons (pe_mt (ok_kept T ok) hr (Nat.le_refl _) (pv 0) (pa_cons (pe_lst (pa_cons (pe_ix ix_tup (pv 3) pe_int (fun _ _ => rfl)) pa_nil)) pa_nil)) pa_nil))))
        (pss_one (ps_expr (pe_bm PySem.F.plainAttrs_list PySem.F.slot_list_append PySem.F.type_list_append mt_append (pv 2) (pa_cons (pe_tup pa_nil) pa_nil)))))))
      (pss_one (ps_ret (pe_callTy call_tuple_of rfl T.z_tuple boot_tuple (pa_cons (pv 2) pa_nil))))), ?_⟩
  refine ⟨(by show 0 ≤ sizeLine; decide), fun g hg0 => ?_⟩
  have ng := gi.notown hg0
  have s0 : Same H (upd H g (.lst [])) := same_new hg0 _
  obtain ⟨C, sh, va⟩ := id gi
  obtain ⟨rs, hrs1, hrs2⟩ := sh.rules
  refine ⟨_, rfl, G.S, _, _, _, _, rfl, s0 _ _ sh.self, T.cl_BookGrower, T.na_BookGrower_rules, hg.2.2.1, G.tr, rfl, ⟨_, SqT.of (s0 _ _ hrs1)⟩, for_tup (xs := rs.map V.ref) (fun i σ H' => ∃ (u : Option V) (KQ2 : List (List Pat)) (ts : List Addr), σ = [some (.ref G.S), some (.str nm), some (.ref g), u] ∧ H' g = some (.lst (ts.map V.ref)) ∧ GI P w N G R c SS KQ2 H' ∧ (∀ x ∈ KQ, x ∈ KQ2) ∧ (∀ qs ∈ (startAS R nm).take i, qs ∈ KQ2) ∧ Paired (fun (ks : List Str) b => H' b = some (.tup (ks.map V.str))) (keyOf ((startAS R nm).take i)) ts ∧ Bt G H H') ?_ ?_ ?_ ?_⟩
  · exact ⟨none, KQ, [], rfl, upd_same, gi.same s0, fun x hx => hx, fun qs hq => (by simp at hq), .nil, bt_same s0⟩
  · rintro i σ H' hi ⟨u, KQ2, ts, rfl, hgg, gi2, m1, m2, pr, bt⟩
    exact SqT.of ((gi.btfz bt) _ _ True.intro hrs1)
  · rintro i x σ H' hx ⟨u, KQ2, ts, rfl, hgg, gi2, m1, m2, pr, bt⟩
    have hi : i < rs.length := by have := (List.getElem?_eq_some_iff.mp hx).1; rw [List.length_map] at this; exact this
    have hiR : i < R.length := by rw [← hrs2.1]; exact hi
    rw [List.getElem?_map, List.getElem?_eq_getElem hi] at hx
    have e1 : V.ref rs[i] = x := Option.some.inj hx
    subst e1
    have z2 := gi.btfz bt
    obtain ⟨b, f1, f2⟩ := (hrs2.fz z2).2 i _ _ (List.getElem?_eq_getElem hiR) (List.getElem?_eq_getElem hi)
    have hpl := pr_some pr
    have hlen : ts.length ≤ 8 := by
      rw [← hpl]
      unfold keyOf startAS
      rw [List.length_map, List.length_take, List.length_map]
      have := ok.1
      omega
    have esn : (startAS R nm)[i]? = some (if R[i].2.1 = nm then [R[i].2.2] else []) := by
      unfold startAS
      rw [List.getElem?_map, List.getElem?_eq_getElem hiR]
      rfl
    have fin : ∀ (t : Addr) (qs : List Pat) (KQ3 : List (List Pat)) (H4 : Hp), (startAS R nm)[i]? = some qs → Bt G H' H4 → GI P w N G R c SS KQ3 H4 → (∀ x ∈ KQ2, x ∈ KQ3) → qs ∈ KQ3 → H4 t = some (strT (pens qs)) → H4 g = some (.lst (ts.map V.ref)) →
        ∃ (u : Option V) (KQ2 : List (List Pat)) (ts2 : List Addr), [some (V.ref G.S), some (.str nm), some (.ref g), some (.ref rs[i])] = [some (.ref G.S), some (.str nm), some (.ref g), u] ∧ (upd H4 g (.lst (ts.map V.ref ++ [.ref t]))) g = some (.lst (ts2.map V.ref)) ∧ GI P w N G R c SS KQ2 (upd H4 g (.lst (ts.map V.ref ++ [.ref t]))) ∧ (∀ x ∈ KQ, x ∈ KQ2) ∧ (∀ qs ∈ (startAS R nm).take (i + 1), qs ∈ KQ2) ∧ Paired (fun (ks : List Str) b => (upd H4 g (.lst (ts.map V.ref ++ [.ref t]))) b = some (.tup (ks.map V.str))) (keyOf ((startAS R nm).take (i + 1))) ts2 ∧ Bt G H (upd H4 g (.lst (ts.map V.ref ++ [.ref t]))) := fun t qs KQ3 H4 h1 h2 h3 h4 h5 h6 h7 => by
      have z4 := gi2.btfz h2
      have z5 : Fz H4 (upd H4 g (.lst (ts.map V.ref ++ [.ref t]))) := fz_updL h7
      refine ⟨_, KQ3, ts ++ [t], rfl, by rw [upd_same, List.map_append]; rfl, h3.updL h7 ng, fun x hx => h4 x (m1 x hx), fun q hq => ?_, ?_, fun x o n e => by rw [upd_ne (ne_of_none e hg0)]; exact h2 x o n (bt x o n e)⟩
      · rw [take_snoc h1] at hq
        rcases List.mem_append.mp hq with hq | hq
        · exact h4 q (m2 q hq)
        · rw [List.mem_singleton.mp hq]; exact h5
      · rw [take_snoc h1]
        have e5 : keyOf ((startAS R nm).take i ++ [qs]) = keyOf ((startAS R nm).take i) ++ [pens qs] := by unfold keyOf; rw [List.map_append]; rfl
        rw [e5]
        exact pr_snoc (z5 t (strT (pens qs)) True.intro h6) (pr_mono (z4.trans z5) pr)
    refine ⟨_, rfl, rs[i], _, _, _, rfl, rfl, SqT.of f1, at1, _, rfl, rfl, _, rfl, ?_⟩
    obtain ⟨C2, sh2, va2⟩ := id gi2
    show if decide (V.str R[i].2.1 = V.str nm) = true then _ else _
    by_cases en : R[i].2.1 = nm
    · rw [decide_eq_true (by rw [en])]
      refine iteT ?_
      rw [if_pos en] at esn
      refine ⟨_, rfl, .inl ⟨rfl, _, SqL.of hgg⟩, ?_⟩
      refine ⟨_, rfl, G.S, _, _, rfl, sh2.self, gfs_none G (by decide +kernel) (by decide +kernel) (by decide +kernel) (by decide +kernel) (by decide +kernel) (by decide +kernel), ?_⟩
      refine ⟨_, rfl, rs[i], _, _, _, rfl, rfl, SqT.of f1, at2, (by show 1 ≤ sizeLine; decide), fun l hl0 => ?_⟩
      have sl : Same H' (upd H' l (.lst [.ref b])) := same_new hl0 _
      have vq1 : VQ R [R[i].2.2] := ⟨by simp, R[i], List.getElem_mem hiR, fun q hq => by rw [List.mem_singleton.mp hq]; exact (closed _ (ok.2 _ (List.getElem_mem hiR)).1).1⟩
      refine ⟨_, _, rfl, G, c, SS, KQ2, l, [R[i].2.2], rfl, rfl, gi2.same sl, ⟨[b], upd_same, pats_one (f2.fz (fz_same sl))⟩, vq1, fun t qs H4 b4 gi4 pm et => ?_⟩
      have eq1 : qs = [R[i].2.2] := List.perm_singleton.mp pm
      subst eq1
      have b5 := (bt_same (G := G) sl).trans b4
      have hg4 := b5 _ _ ng hgg
      refine ⟨g, _, _, rfl, rfl, hg4, by rw [List.length_map, sizeLine_eq]; omega, ?_⟩
      exact fin t _ _ H4 esn b5 gi4 (fun x hx => List.mem_cons_of_mem _ hx) List.mem_cons_self et hg4
    · rw [decide_eq_false (by intro z; injection z with z; exact en z)]
      refine iteF ?_
      rw [if_neg en] at esn
      refine ⟨_, rfl, .inl ⟨rfl, _, SqL.of hgg⟩, (by show 0 ≤ sizeLine; decide), fun t ht0 => ?_⟩
      have st : Same H' (upd H' t (.tup [])) := same_new ht0 _
      have hg4 := st _ _ hgg
      refine ⟨g, _, _, rfl, rfl, hg4, by rw [List.length_map, sizeLine_eq]; omega, ?_⟩
      exact fin t _ _ _ esn (bt_same st) ((gi2.same st).addNil (List.getElem_mem hiR)) (fun x hx => List.mem_cons_of_mem _ hx) List.mem_cons_self upd_same hg4
  · rintro σ H' ⟨u, KQ2, ts, rfl, hgg, gi2, m1, m2, pr, bt⟩
    have hfull : (startAS R nm).take rs.length = startAS R nm := List.take_of_length_le (by unfold startAS; rw [List.length_map, hrs2.1]; exact Nat.le_refl _)
    rw [List.length_map, hfull] at m2 pr
    refine ⟨_, rfl, g, _, rfl, .inl ⟨SqL.of hgg, fun t ht0 => ?_⟩⟩
    have s3 : Same H' (upd H' t (.tup (ts.map V.ref))) := same_new ht0 _
    exact k t KQ2 _ (bt.trans (bt_same s3)) (gi2.same s3) m1 m2 ⟨ts, upd_same, pr_mono (fz_same s3) pr⟩
/-! ### number -/
theorem Shape.setL {G : GAd} {C : Ct} {H : Hp} (h : Shape P w N G R C H) (as : List Addr) : Shape P w N G R ⟨as, C.nk, C.pk, C.bk, C.fk⟩ (upd H G.ls (.lst (as.map V.ref))) := by
  have z : Fz H (upd H G.ls (.lst (as.map V.ref))) := fz_updL h.st
  obtain ⟨rs, e1, e2⟩ := h.rules
  obtain ⟨s1, s2, s3, s4, s5, s6, s7⟩ := h.sep
  exact ⟨z _ _ True.intro h.self, ⟨rs, z _ _ True.intro e1, e2.fz z⟩, nd_keep h.nd (upd_ne (Ne.symm s1)) z, upd_same, by rw [upd_ne (Ne.symm s7)]; exact h.pt, nd_keep h.bd (upd_ne (Ne.symm s2)) z, nd_keep h.fd (upd_ne (Ne.symm s3)) z, h.n1, h.n2, h.n3⟩
theorem Valid.push {C : Ct} {c : Nat} {SS : List AS} {KQ : List (List Pat)} {H : Hp} (h : Valid N R C c SS KQ H) {σ : AS} {b : Addr} (few : SS.length < 64) (g : Good R σ) (q : ∀ qs ∈ σ, qs ∈ KQ) (kb : KeyAt H (keyOf σ) b) :
    Valid N R ⟨C.as ++ [b], putK C.nk (keyOf σ) (.int SS.length), C.pk, C.bk, C.fk⟩ c (SS ++ [σ]) KQ H := by
  have ex : ∀ (i : Nat) (τ : AS), SS[i]? = some τ → (SS ++ [σ])[i]? = some τ := fun i τ e => by
    rw [List.getElem?_append_left (List.getElem?_eq_some_iff.mp e).1]; exact e
  refine ⟨by rw [List.length_append, List.length_append, h.len]; rfl, by rw [List.length_append]; exact few, fun i τ a e1 e2 => ?_, fun τ hτ => ?_, h.kq, ?_, fun κ v e => ?_, h.pkn, h.pkv, h.bkl, h.bkv, h.fkl, h.fkv⟩
  · by_cases hi : i < SS.length
    · rw [List.getElem?_append_left hi] at e1
      rw [List.getElem?_append_left (by rw [h.len]; exact hi)] at e2
      exact h.key i τ a e1 e2
    · have hi2 : i = SS.length := by
        have := (List.getElem?_eq_some_iff.mp e1).1
        rw [List.length_append] at this
        simp at this
        omega
      subst hi2
      rw [List.getElem?_append_right (Nat.le_refl _)] at e1
      rw [List.getElem?_append_right (by rw [h.len]; exact Nat.le_refl _), h.len] at e2
      simp at e1 e2
      subst e1 e2
      exact kb
  · rcases List.mem_append.mp hτ with hτ | hτ
    · exact h.good τ hτ
    · rw [List.mem_singleton.mp hτ]; exact ⟨g, q⟩
  · have := len_putK C.nk (keyOf σ) (.int SS.length)
    have := h.nkl
    rw [List.length_append]
    exact Nat.le_trans (len_putK _ _ _) (Nat.succ_le_succ h.nkl)
  · rcases val_put e with ⟨e1, e2⟩ | e
    · exact ⟨SS.length, σ, by rw [List.getElem?_append_right (Nat.le_refl _)]; simp, e1.symm, e2⟩
    · obtain ⟨i, τ, f1, f2, f3⟩ := h.nkv κ v e
      exact ⟨i, τ, ex i τ f1, f2, f3⟩
theorem scNumber : FnScope ["self", "state"] ["self", "state"] (defScope sGrowerNumber) := ⟨rfl, rfl, rfl, by decide +kernel, rfl, by decide +kernel, by decide +kernel⟩
/-- a method that may raise -/
structure MetX (P : Program) (w : World) (K : PySem.W.Frag) (mg : Str → Option Value) (base : Heap) (k : Nat) (C : Addr) (m : Str) (sp : Sp) : Prop where
  ex : ∃ f fd ps, Cls K C ∧ Meth K C m f ∧ FnOk P w K mg base (L2.CX P w) k f fd ps sp ∧ Binds K fd ps []
def numQ (P : Program) (w : World) (N : Nm) (R : List Rl) (more : List AS → Prop) (v u : V) (H : Hp) (Q : VK) : Prop := ∃ (G : GAd) (c : Nat) (SS : List AS) (KQ : List (List Pat)) (b : Addr) (σ : AS), v = .ref G.S ∧ u = .ref b ∧ GI P w N G R c SS KQ H ∧ KeyAt H (keyOf σ) b ∧ Good R σ ∧ (∀ qs ∈ σ, qs ∈ KQ) ∧ more SS ∧
  ∀ (i : Nat) SS' H', Bt G H H' → GI P w N G R c SS' KQ H' → (SS' = SS ∨ SS' = SS ++ [σ]) → SS'[i]? = some σ → Q (.int i) H'
def spNum0 (P : Program) (w : World) (N : Nm) (R : List Rl) : Sp := sp2 (numQ P w N R fun SS => SS.length < 64)
def spNumX (P : Program) (w : World) (N : Nm) (R : List Rl) : Sp := fun vs H Q E => ∃ v u, vs = [v, u] ∧ numQ P w N R (fun _ => True) v u H Q ∧ ∀ H', E (.ref N.many) none H'
theorem ok_num0 (T : Tx K mg N) (ok : RulesOk R) : Met P w K mg base 1 N.grow "number" (spNum0 P w N R) [] := by
  refine T.m_BookGrower_number.met scNumber (fun _ _ _ _ _ _ us hl => match us, hl with | [_, _], _ => rfl) len2 (fun f cdv A outer s H vs Q E hr h => ?_)
  obtain ⟨SFT, hsft⟩ := T.states
  obtain ⟨_, _, rfl, G, c, SS, KQ, b, σ, rfl, rfl, gi, hkey, good, hkq, less, k⟩ := h
  have hu := hu2_of hr
  have hg := gfs_look G
  refine ⟨_, pss_cons (ps_if (pt_cmp (KN.pc_nnotin hu (pv 1) (pe_fld (pv 0) rfl)))
      (pss_cons (ps_if (pt_cmpR op_eq (pe_callB call_len_seq (by rfl) T.z_len PySem.boot_len (pa_cons (pe_fld (pv 0) rfl) pa_nil)) (pe_glob (v := .int 64) rfl hsft ⟨_, rfl⟩) (nomark _)) (pss_one ps_never) pss_nil)
        (pss_cons (KN.ps_nput hu (pe_fld (pv 0) rfl) (pv 1) (pe_callB call_len_seq (by rfl) T.z_len PySem.boot_len (pa_cons (pe_fld (pv 0) rfl) pa_nil)) rfl)
          (pss_one (ps_expr (pe_bm PySem.F.plainAttrs_list PySem.F.slot_list_append PySem.F.type_list_append mt_append (pe_fld (pv 0) rfl) (pa_cons (pv 1) pa_nil)))))) pss_nil)
    (pss_one (ps_ret (KN.pe_nget hu (pe_fld (pv 0) rfl) (pv 1) (fun _ _ => rfl)))), ?_⟩
  obtain ⟨C, sh, va⟩ := id gi
  refine ⟨_, rfl, _, rfl, G.S, _, _, _, _, rfl, sh.self, T.cl_BookGrower, T.na_BookGrower_numbers, hg.1, G.dn, C.nk, keyOf σ, b, rfl, rfl, sh.nd, hkey, _, rfl, ?_⟩
  cases ef : valV C.nk (keyOf σ) with
  | some v =>
    refine iteF ?_
    obtain ⟨i, σ0, e1, e2, e3⟩ := va.nkv _ _ ef
    have e5 := key_inj ok (va.good _ (List.mem_of_getElem? e1)).1 good e2
    subst e5
    subst e3
    exact ⟨_, rfl, G.S, _, _, _, _, rfl, sh.self, T.cl_BookGrower, T.na_BookGrower_numbers, hg.1, _, rfl, G.dn, C.nk, keyOf σ0, b, _, rfl, rfl, sh.nd, hkey, ef, k i SS H (Bt.refl G H) gi (.inl rfl) e1⟩
  | none =>
    refine iteT ?_
    refine ⟨_, rfl, G.S, _, _, _, _, rfl, sh.self, T.cl_BookGrower, T.na_BookGrower_states, hg.2.1, G.ls, _, rfl, .inl (SqL.of sh.st), rfl, _, rfl, ?_⟩
    rw [List.length_map, va.len, dec_int]
    cases el : (((SS.length : Nat) : Int) == 64) with
    | true =>
      refine iteT ?_
      have : ((SS.length : Nat) : Int) = 64 := by simpa using el
      exact absurd less (by omega)
    | false =>
      refine iteF ?_
      have few : SS.length < 64 := by
        have := va.few
        rw [beq_eq_false_iff_ne] at el
        omega
      refine ⟨_, rfl, G.S, _, _, _, _, rfl, sh.self, T.cl_BookGrower, T.na_BookGrower_states, hg.2.1, G.ls, _, rfl, .inl (SqL.of sh.st), ?_⟩
      rw [List.length_map, va.len]
      refine ⟨_, rfl, G.S, _, _, _, _, rfl, sh.self, T.cl_BookGrower, T.na_BookGrower_numbers, hg.1, _, rfl, G.dn, C.nk, keyOf σ, b, rfl, rfl, sh.nd, by have := va.nkl; rw [sizeLine_eq]; omega, hkey, fun H4 b1 b2 nd => ?_⟩
      have bt4 : But G.dn H H4 := fun x o n e => b1 x o n e
      have z := nd_fz sh.nd bt4
      have sh4 := sh.setN bt4 nd
      have va4 := va.fz z
      have hl4 : H4 G.ls = some (.lst (C.as.map V.ref)) := sh4.st
      refine ⟨_, rfl, G.S, _, _, _, _, rfl, sh4.self, T.cl_BookGrower, T.na_BookGrower_states, hg.2.1, .inl ⟨rfl, _, SqL.of hl4⟩, _, rfl, G.ls, _, _, rfl, rfl, hl4, by rw [List.length_map, va.len, sizeLine_eq]; omega, ?_⟩
      have sh5 := sh4.setL (C.as ++ [b])
      have z5 : Fz H4 (upd H4 G.ls (.lst ((C.as ++ [b]).map V.ref))) := fz_updL hl4
      have va5 := (va4.push few good hkq (key_fz hkey z)).fz z5
      rw [show C.as.map V.ref ++ [V.ref b] = (C.as ++ [b]).map V.ref from by rw [List.map_append]; rfl]
      have hl5 : Bt G H4 (upd H4 G.ls (.lst ((C.as ++ [b]).map V.ref))) := bt_but (.inr (.inl rfl)) but_upd
      generalize upd H4 G.ls (.lst ((C.as ++ [b]).map V.ref)) = H5 at *
      refine ⟨_, rfl, G.S, _, _, _, _, rfl, sh5.self, T.cl_BookGrower, T.na_BookGrower_numbers, hg.1, _, rfl, G.dn, _, keyOf σ, b, .int (SS.length : Nat), rfl, rfl, sh5.nd, key_fz hkey (z.trans z5), by rw [valV_put, if_pos rfl], ?_⟩
      exact k SS.length (SS ++ [σ]) H5 ((bt_but (.inl rfl) bt4).trans hl5) ⟨_, sh5, va5⟩ (.inr rfl) (by rw [List.getElem?_append_right (Nat.le_refl _)]; simp)
theorem ok_numX (T : Tx K mg N) (ok : RulesOk R) : MetX P w K mg base 1 N.grow "number" (spNumX P w N R) := by
  obtain ⟨gM, xM, kM, bM, tM, _⟩ := T.many
  obtain ⟨f, fd, c, me, F⟩ := T.m_BookGrower_number.ex
  refine ⟨f, fd, ["self", "state"], c, me, F.ok scNumber (fun vs H Q E h => (by obtain ⟨_, _, rfl, _⟩ := h; rfl)) (fun cdv A outer s H vs Q E hr h => ?_), F.bindsN (fun _ _ _ _ _ _ us hl => match us, hl with | [_, _], _ => rfl)⟩
  obtain ⟨SFT, hsft⟩ := T.states
  obtain ⟨_, _, rfl, ⟨G, c, SS, KQ, b, σ, rfl, rfl, gi, hkey, good, hkq, less, k⟩, hE⟩ := h
  have hu := hu2_of hr
  have hg := gfs_look G
  refine ⟨_, pss_cons (ps_if (pt_cmp (KN.pc_nnotin hu (pv 1) (pe_fld (pv 0) rfl)))
      (pss_cons (ps_if (pt_cmpR op_eq (pe_callB call_len_seq (by rfl) T.z_len PySem.boot_len (pa_cons (pe_fld (pv 0) rfl) pa_nil)) (pe_glob (v := .int 64) rfl hsft ⟨_, rfl⟩) (nomark _)) (pss_one (ps_raise rfl (takes_of rfl rfl rfl rfl) (pmk_own PySem.F.excBase_ValueError xM gM kM (raises_own bM tM) rfl))) pss_nil)
        (pss_cons (KN.ps_nput hu (pe_fld (pv 0) rfl) (pv 1) (pe_callB call_len_seq (by rfl) T.z_len PySem.boot_len (pa_cons (pe_fld (pv 0) rfl) pa_nil)) rfl)
          (pss_one (ps_expr (pe_bm PySem.F.plainAttrs_list PySem.F.slot_list_append PySem.F.type_list_append mt_append (pe_fld (pv 0) rfl) (pa_cons (pv 1) pa_nil)))))) pss_nil)
    (pss_one (ps_ret (KN.pe_nget hu (pe_fld (pv 0) rfl) (pv 1) (fun _ _ => rfl)))), ?_⟩
  obtain ⟨C, sh, va⟩ := id gi
  refine ⟨_, rfl, _, rfl, G.S, _, _, _, _, rfl, sh.self, T.cl_BookGrower, T.na_BookGrower_numbers, hg.1, G.dn, C.nk, keyOf σ, b, rfl, rfl, sh.nd, hkey, _, rfl, ?_⟩
  cases ef : valV C.nk (keyOf σ) with
  | some v =>
    refine iteF ?_
    obtain ⟨i, σ0, e1, e2, e3⟩ := va.nkv _ _ ef
    have e5 := key_inj ok (va.good _ (List.mem_of_getElem? e1)).1 good e2
    subst e5
    subst e3
    exact ⟨_, rfl, G.S, _, _, _, _, rfl, sh.self, T.cl_BookGrower, T.na_BookGrower_numbers, hg.1, _, rfl, G.dn, C.nk, keyOf σ0, b, _, rfl, rfl, sh.nd, hkey, ef, k i SS H (Bt.refl G H) gi (.inl rfl) e1⟩
  | none =>
    refine iteT ?_
    refine ⟨_, rfl, G.S, _, _, _, _, rfl, sh.self, T.cl_BookGrower, T.na_BookGrower_states, hg.2.1, G.ls, _, rfl, .inl (SqL.of sh.st), rfl, _, rfl, ?_⟩
    rw [List.length_map, va.len, dec_int]
    cases el : (((SS.length : Nat) : Int) == 64) with
    | true =>
      refine iteT ?_
      exact hE _
    | false =>
      refine iteF ?_
      have few : SS.length < 64 := by
        have := va.few
        rw [beq_eq_false_iff_ne] at el
        omega
      refine ⟨_, rfl, G.S, _, _, _, _, rfl, sh.self, T.cl_BookGrower, T.na_BookGrower_states, hg.2.1, G.ls, _, rfl, .inl (SqL.of sh.st), ?_⟩
      rw [List.length_map, va.len]
      refine ⟨_, rfl, G.S, _, _, _, _, rfl, sh.self, T.cl_BookGrower, T.na_BookGrower_numbers, hg.1, _, rfl, G.dn, C.nk, keyOf σ, b, rfl, rfl, sh.nd, by have := va.nkl; rw [sizeLine_eq]; omega, hkey, fun H4 b1 b2 nd => ?_⟩
      have bt4 : But G.dn H H4 := fun x o n e => b1 x o n e
      have z := nd_fz sh.nd bt4
      have sh4 := sh.setN bt4 nd
      have va4 := va.fz z
      have hl4 : H4 G.ls = some (.lst (C.as.map V.ref)) := sh4.st
      refine ⟨_, rfl, G.S, _, _, _, _, rfl, sh4.self, T.cl_BookGrower, T.na_BookGrower_states, hg.2.1, .inl ⟨rfl, _, SqL.of hl4⟩, _, rfl, G.ls, _, _, rfl, rfl, hl4, by rw [List.length_map, va.len, sizeLine_eq]; omega, ?_⟩
      have sh5 := sh4.setL (C.as ++ [b])
      have z5 : Fz H4 (upd H4 G.ls (.lst ((C.as ++ [b]).map V.ref))) := fz_updL hl4
      have va5 := (va4.push few good hkq (key_fz hkey z)).fz z5
      rw [show C.as.map V.ref ++ [V.ref b] = (C.as ++ [b]).map V.ref from by rw [List.map_append]; rfl]
      have hl5 : Bt G H4 (upd H4 G.ls (.lst ((C.as ++ [b]).map V.ref))) := bt_but (.inr (.inl rfl)) but_upd
      generalize upd H4 G.ls (.lst ((C.as ++ [b]).map V.ref)) = H5 at *
      refine ⟨_, rfl, G.S, _, _, _, _, rfl, sh5.self, T.cl_BookGrower, T.na_BookGrower_numbers, hg.1, _, rfl, G.dn, _, keyOf σ, b, .int (SS.length : Nat), rfl, rfl, sh5.nd, key_fz hkey (z.trans z5), by rw [valV_put, if_pos rfl], ?_⟩
      exact k SS.length (SS ++ [σ]) H5 ((bt_but (.inl rfl) bt4).trans hl5) ⟨_, sh5, va5⟩ (.inr rfl) (by rw [List.getElem?_append_right (Nat.le_refl _)]; simp)
end
end KG
end
section
set_option Elab.async false
set_option linter.all false
set_option autoImplicit false
set_option maxRecDepth 100000
set_option maxHeartbeats 4000000
/-! ## BookGrower: tables -/
namespace KG
open PySem PySem.Spec PyProof.Rows L2 KM
open C8 (Cal Met Mak pe_c pe_mk pe_mt pe_mt0)
open KN (NKey NDict KeyAt ND NEnt)
section
variable {X : Cx} {k j : Nat} {C : Addr} {m : Str} {sp : Sp} {E : XK} {o e : Expr} {es : List Expr} {ta : TE} {t : TA} {apos pos : Pos}
theorem pe_mtX {pl : Sem Bool} (c : MetX X.prog X.w X.K X.mg X.base k C m sp) (hx : Passes (L2.CX X.prog X.w) X E) (hr : Room j X.A) (hk : k ≤ j) (he : PE X o ta) (ha : PA X (e :: es) t)
    (hst : starEach (e :: es) X.env = (false, eval e X.env) :: starEach es X.env := by rfl) (hpl : (backTo pos (starEach es X.env)).any (·.1) = false := by rfl)
    (ht : eval (.Call (.Attribute o m apos) (e :: es) [] pos) X.env = (do
      let ov ← eval o X.env
      standAt apos.atName
      let (f, first) ← holding [ov] (getMethod ov m pl)
      callWith pos f first (backTo pos (starEach (e :: es) X.env)) (backToKw pos (keywordEach [] X.env))) := by rfl) :
    PE X (.Call (.Attribute o m apos) (e :: es) [] pos) (tMeth C m sp [] E ta t) := by
  obtain ⟨f, fd, ps, cl, hm, F, b⟩ := c.ex
  exact pe_meth (pl := pl) he cl hm F (hr.mono hk) b .nil hx ha hst hpl ht
end
section
variable {P : Program} {w : World} {K : PySem.W.Frag} {mg : Str → Option Value} {base : Heap} {N : Nm} {R : List Rl}
def StepOK (R : List Rl) (SS : List AS) (i j n : Nat) : Prop := ∃ σ τ σ', SS[i]? = some σ ∧ SS[j]? = some τ ∧ SS[n]? = some σ' ∧ StepAS (formsOf R τ) σ σ'
/-- the list grows at its end -/
def Ext (SS SS' : List AS) : Prop := ∀ (i : Nat) (σ : AS), SS[i]? = some σ → SS'[i]? = some σ
theorem Ext.refl (SS : List AS) : Ext SS SS := fun _ _ h => h
theorem Ext.trans {a b c : List AS} (x : Ext a b) (y : Ext b c) : Ext a c := fun i σ h => y i σ (x i σ h)
theorem ext_of {SS SS' : List AS} {σ : AS} (h : SS' = SS ∨ SS' = SS ++ [σ]) : Ext SS SS' := by
  rcases h with h | h <;> subst h
  · exact Ext.refl _
  · intro i τ e
    rw [List.getElem?_append_left (List.getElem?_eq_some_iff.mp e).1]
    exact e
theorem Ext.len {SS SS' : List AS} (h : Ext SS SS') : SS.length ≤ SS'.length := by
  cases hs : SS.length with
  | zero => exact Nat.zero_le _
  | succ n =>
    have e := h n _ (List.getElem?_eq_getElem (by omega))
    have := (List.getElem?_eq_some_iff.mp e).1
    omega
theorem StepOK.ext {SS SS' : List AS} (x : Ext SS SS') {i j n : Nat} (h : StepOK R SS i j n) : StepOK R SS' i j n := by
  obtain ⟨a, b, c, e1, e2, e3, e4⟩ := h
  exact ⟨a, b, c, x _ _ e1, x _ _ e2, x _ _ e3, e4⟩
/-- an entry of the steps -/
def EntOK (R : List Rl) (SS : List AS) (kv : List (List Key × V)) (i j : Nat) : Prop := ∃ n : Nat, valV kv [Sum.inl (i : Int), Sum.inl (j : Int)] = some (.int n) ∧ StepOK R SS i j n
theorem EntOK.ext {SS SS' : List AS} (x : Ext SS SS') {kv : List (List Key × V)} {i j : Nat} (h : EntOK R SS kv i j) : EntOK R SS' kv i j := by
  obtain ⟨n, e, s⟩ := h
  exact ⟨n, e, s.ext x⟩
theorem ent_put {SS : List AS} {kv : List (List Key × V)} {a b m : Nat} (s : StepOK R SS a b m) {i j : Nat} (h : EntOK R SS kv i j ∨ (i = a ∧ j = b)) : EntOK R SS (putK kv [Sum.inl (a : Int), Sum.inl (b : Int)] (.int m)) i j := by
  by_cases e : i = a ∧ j = b
  · obtain ⟨e1, e2⟩ := e
    subst e1 e2
    exact ⟨m, by rw [valV_put, if_pos rfl], s⟩
  · obtain ⟨n, e1, s1⟩ := h.resolve_right e
    refine ⟨n, ?_, s1⟩
    rw [valV_put, if_neg, e1]
    intro z
    injection z with z1 z2
    injection z2 with z2 _
    injection z1 with z1
    injection z2 with z2
    exact e ⟨by omega, by omega⟩
def RowAt (H : Hp) (row : List Nat) (a : Addr) : Prop := H a = some (.tup (row.map fun (n : Nat) => V.int (n : Int)))
def MatAt (H : Hp) (tm : Addr) (M : List (List Nat)) : Prop := ∃ rts : List Addr, H tm = some (.tup (rts.map V.ref)) ∧ rts.length = M.length ∧ ∀ (i : Nat) (row : List Nat) (a : Addr), M[i]? = some row → rts[i]? = some a → RowAt H row a
def spTablesX (P : Program) (w : World) (N : Nm) (R : List Rl) : Sp := fun vs H Q E => ∃ (v u : V), vs = [v, u] ∧ (∃ (G : GAd) (KQ : List (List Pat)) (l : Addr) (bs : List Addr) (σs : List AS), v = .ref G.S ∧ u = .ref l ∧ GI P w N G R 0 [] KQ H ∧ H l = some (.lst (bs.map V.ref)) ∧ ¬ own G l ∧ bs.length = σs.length ∧ σs.length ≤ 10 ∧
    (∀ (i : Nat) (σ : AS) (b : Addr), σs[i]? = some σ → bs[i]? = some b → KeyAt H (keyOf σ) b ∧ Good R σ ∧ ∀ qs ∈ σ, qs ∈ KQ) ∧
    ∀ t H' SS KQ' c ix M tf tm, Bt G H H' → GI P w N G R c SS KQ' H' → (∀ σ ∈ SS, ∀ qs ∈ σ, qs ∈ KQ') → H' t = some (.tup [.ref tf, .ref tm]) → RowAt H' ix tf → ix.length = σs.length → (∀ (i : Nat) (σ : AS) (n : Nat), σs[i]? = some σ → ix[i]? = some n → SS[n]? = some σ) →
      MatAt H' tm M → M.length = SS.length → (∀ row ∈ M, row.length = SS.length) → (∀ (i j : Nat) (row : List Nat) (n : Nat), M[i]? = some row → row[j]? = some n → StepOK R SS i j n) → Q (.ref t) H') ∧
  ∀ H', E (.ref N.many) none H'
theorem acc_of {β : Type} {f : β → V} : ∀ {n : Nat} {acc : List V} {Pj : Nat → β → Prop}, acc.length = n → (∀ j, j < n → ∃ y, acc[j]? = some y ∧ ∃ b, y = f b ∧ Pj j b) → ∃ bs : List β, acc = bs.map f ∧ bs.length = n ∧ ∀ (j : Nat) (b : β), bs[j]? = some b → Pj j b
  | 0, [], _, _, _ => ⟨[], rfl, rfl, fun j b e => by simp at e⟩
  | 0, _ :: _, _, h, _ => by simp at h
  | n + 1, [], _, h, _ => by simp at h
  | n + 1, y :: acc, Pj, h, k => by
    obtain ⟨bs, e, hl, hs⟩ := acc_of (f := f) (n := n) (acc := acc) (Pj := fun j b => Pj (j + 1) b) (by simpa using h) fun j hj => k (j + 1) (by omega)
    obtain ⟨y', h1, b, h2, h3⟩ := k 0 (by omega)
    cases h1
    refine ⟨b :: bs, by rw [e, h2]; rfl, by rw [List.length_cons, hl], fun j c ec => ?_⟩
    cases j with
    | zero => cases ec; exact h3
    | succ j => exact hs j c ec
theorem GI.updD {G : GAd} {c : Nat} {SS : List AS} {KQ : List (List Pat)} {H : Hp} (h : GI P w N G R c SS KQ H) {D : Addr} {kv : List (List Key × V)} {o : HO} (e : H D = some (.dT kv)) (n : ¬ own G D) : GI P w N G R c SS KQ (upd H D o) :=
  h.keep (but_upd.fz e (fun z => z)) fun b ob => by rw [upd_ne (fun z => n (by rw [← z]; exact ob))]
theorem GI.few {G : GAd} {c : Nat} {SS : List AS} {KQ : List (List Pat)} {H : Hp} (h : GI P w N G R c SS KQ H) : SS.length ≤ 64 := by
  obtain ⟨C, _, va⟩ := h
  exact va.few
theorem GI.good {G : GAd} {c : Nat} {SS : List AS} {KQ : List (List Pat)} {H : Hp} (h : GI P w N G R c SS KQ H) : ∀ σ ∈ SS, Good R σ ∧ ∀ qs ∈ σ, qs ∈ KQ := by
  obtain ⟨C, _, va⟩ := h
  exact va.good
/-- the i-th state's object -/
theorem GI.state {G : GAd} {c : Nat} {SS : List AS} {KQ : List (List Pat)} {H : Hp} (h : GI P w N G R c SS KQ H) {i : Nat} (hi : i < SS.length) : ∃ (as : List Addr) (a : Addr), H G.S = some (.ins N.grow G.dx (gfs G)) ∧ H G.ls = some (.lst (as.map V.ref)) ∧ as.length = SS.length ∧ (as.map V.ref)[i]? = some (.ref a) ∧ KeyAt H (keyOf SS[i]) a := by
  obtain ⟨C, sh, va⟩ := h
  have hi2 : i < C.as.length := by rw [va.len]; exact hi
  refine ⟨C.as, C.as[i], sh.self, sh.st, va.len, by rw [List.getElem?_map, List.getElem?_eq_getElem hi2]; rfl, va.key i _ _ (List.getElem?_eq_getElem hi) (List.getElem?_eq_getElem hi2)⟩
theorem scTables : FnScope ["self", "starts", "firsts", "steps", "p", "q", "many", "rows", "state"] ["self", "starts"] (defScope sGrowerTables) := ⟨rfl, rfl, rfl, by decide +kernel, rfl, by decide +kernel, by decide +kernel⟩
theorem ok_tables (T : Tx K mg N) (ok : RulesOk R) : MetX P w K mg base 45 N.grow "tables" (spTablesX P w N R) := by
  obtain ⟨f, fd, c, me, F⟩ := T.m_BookGrower_tables.ex
  refine ⟨f, fd, ["self", "starts"], c, me, F.ok scTables (fun vs H Q E h => (by obtain ⟨_, _, rfl, _⟩ := h; rfl)) (k := 44) (fun cdv A outer s H vs Q E hr h => ?_), F.bindsN (fun _ _ _ _ _ _ us hl => match us, hl with | [_, _], _ => rfl)⟩
  obtain ⟨_, _, rfl, ⟨G, KQ, l, bs, σs, rfl, rfl, gi, hl, nl, hbl, h10, hss, k⟩, hE⟩ := h
  have hu := hu_of hr
  have hg := gfs_look G
  have gn := fun (m : Str) h1 h2 h3 h4 h5 h6 => gfs_none G (m := m) h1 h2 h3 h4 h5 h6
  refine ⟨_, pss_cons (ps_set (i := 2) scTables.nd rfl (Or.inl rfl) (pe_callTy call_tuple_of rfl T.z_tuple boot_tuple (pa_cons
      (pe_lc (own := [("state", 8)]) (g := gName 8) (tt := tYes) (te := tMeth N.grow "number" (spNum0 P w N R) [] C8.E0 (tVar 0) (tCons (tVar 8) tNil)) rfl scTables.nd (pi_list (pv 1)) (blkOk_by (N := ["self", "starts", "firsts", "steps", "p", "q", "many", "rows", "state"]) (sc := defScope sGrowerTables) (by decide +kernel))
        (fun _ _ _ _ _ => pg_name (i := 8) scTables.nd rfl (Or.inl rfl)) (fun _ _ _ _ _ => pts_nil) (fun _ _ _ _ _ => pe_mt (ok_num0 (P := P) (w := w) (base := base) T ok) hr (by decide) (pv 0) (pa_cons (pv 8) pa_nil))) pa_nil)))
    (pss_cons (ps_set (i := 3) scTables.nd rfl (Or.inr rfl) pe_dnewT)
    (pss_cons (ps_set (i := 4) scTables.nd rfl (Or.inl rfl) pe_int)
    (pss_cons (ps_while (passes_of rfl) (pt_cmpR op_lt (pv 4) (pe_callB call_len_seq (by rfl) T.z_len PySem.boot_len (pa_cons (pe_fld (pv 0) rfl) pa_nil)) (nomark _))
      (pss_cons (ps_for (passes_of rfl) rfl (pi_range1 (by rfl) T.z_range (pa_cons (pe_op op_add (pv 4) pe_int) pa_nil)) (pg_name (i := 5) scTables.nd rfl (Or.inl rfl))
        (pss_cons (ps_dput hu (pv 3) (pe_tup (pa_cons (pv 4) (pa_cons (pv 5) pa_nil))) (pe_mtX (ok_numX (P := P) (w := w) (base := base) T ok) (passes_call (takes_of rfl rfl rfl rfl) (fun _ _ _ _ h => h)) hr (by decide) (pv 0) (pa_cons (pe_mt (ok_step T ok) hr (by decide) (pv 0) (pa_cons (pe_ix ix_list (pe_fld (pv 0) rfl) (pv 4) (fun _ _ => rfl)) (pa_cons (pe_ix ix_list (pe_fld (pv 0) rfl) (pv 5) (fun _ _ => rfl)) pa_nil))) pa_nil)) rfl)
        (pss_one (ps_dput hu (pv 3) (pe_tup (pa_cons (pv 5) (pa_cons (pv 4) pa_nil))) (pe_mtX (ok_numX (P := P) (w := w) (base := base) T ok) (passes_call (takes_of rfl rfl rfl rfl) (fun _ _ _ _ h => h)) hr (by decide) (pv 0) (pa_cons (pe_mt (ok_step T ok) hr (by decide) (pv 0) (pa_cons (pe_ix ix_list (pe_fld (pv 0) rfl) (pv 5) (fun _ _ => rfl)) (pa_cons (pe_ix ix_list (pe_fld (pv 0) rfl) (pv 4) (fun _ _ => rfl)) pa_nil))) pa_nil)) rfl))))
      (pss_one (ps_set (i := 4) scTables.nd rfl (Or.inl rfl) (pe_op op_add (pv 4) pe_int)))))
    (pss_cons (ps_set (i := 6) scTables.nd rfl (Or.inr rfl) (pe_callB call_len_seq (by rfl) T.z_len PySem.boot_len (pa_cons (pe_fld (pv 0) rfl) pa_nil)))
    (pss_cons (ps_setLc (i := 7) (own := [("p", 4)]) (g := gName 4) (tt := tYes) (te := tCB (fun xs H Q => ∃ p ys, xs = [.ref p] ∧ (SqL K H p ys ∧ (∀ t, H t = none → Q (.ref t) (upd H t (.tup ys))) ∨ SqT K H p ys ∧ Q (.ref p) H)) (tCons (tLc (iRng1 (tCons (tVar 6) tNil)) (gName 5) tYes (tDGet (tVar 3) (tTup (tCons (tVar 4) (tCons (tVar 5) tNil)))) [5]) tNil)) rfl scTables.nd rfl rfl (sw_true rfl rfl rfl (by decide +kernel)) (pi_range1 (by rfl) T.z_range (pa_cons (pv 6) pa_nil)) (blkOk_by (N := ["self", "starts", "firsts", "steps", "p", "q", "many", "rows", "state"]) (sc := defScope sGrowerTables) (by decide +kernel))
        (fun _ _ _ _ _ => pg_name (i := 4) scTables.nd rfl (Or.inr rfl)) (fun _ _ _ _ _ => pts_nil) (fun _ _ _ _ _ => pe_callTy call_tuple_of rfl T.z_tuple boot_tuple (pa_cons
          (by exact (pe_lc (own := [("q", 5)]) (g := gName 5) (tt := tYes) rfl scTables.nd (pi_range1 (by rfl) T.z_range (pa_cons (pv 6) pa_nil)) (blkOk_by (N := ["self", "starts", "firsts", "steps", "p", "q", "many", "rows", "state"]) (by kernel_rfl))
            (fun _ _ _ _ _ => pg_name (i := 5) scTables.nd rfl (Or.inl rfl)) (fun _ _ _ _ _ => pts_nil) (fun _ _ _ _ _ => pe_dget hu (pv 3) (pe_tup (pa_cons (pv 4) (pa_cons (pv 5) pa_nil))) (fun _ _ => rfl)))) pa_nil)))
    (pss_one (ps_ret (pe_tup (pa_cons (pv 2) (pa_cons (pe_callTy call_tuple_of rfl T.z_tuple boot_tuple (pa_cons (pv 7) pa_nil)) pa_nil)))))))))), ?_⟩
  -- READING
  refine ⟨_, rfl, l, rfl, ⟨_, SqL.of hl⟩, fun D hD => ?_⟩
  have nD := gi.notown hD
  refine rd_lcT walk_list yat_eq (fun j acc H2 => ∃ (SS2 : List AS) (ix : List Nat), acc = ix.map (fun (n : Nat) => V.int (n : Int)) ∧ GI P w N G R 0 SS2 KQ H2 ∧ SS2.length ≤ j ∧ ix.length = j ∧ (∀ (i : Nat) (σ : AS) (n : Nat), σs[i]? = some σ → ix[i]? = some n → SS2[n]? = some σ) ∧ Bt G H H2)
    ⟨[], [], rfl, gi.same (same_new hD _), Nat.zero_le _, rfl, fun i σ n _ e => (by simp at e), bt_same (same_new hD _)⟩ (fun j acc H2 ⟨_, _, _, _, _, _, _, b2⟩ => SqL.of (b2 _ _ nl hl)) (fun j x H2 acc Ct Cf hj y ⟨SS2, ix, ea, gi2, sl, il, st, b2⟩ hacc hal kt kf => ?_) (fun H2 acc ⟨SS0, ix, ea, gi2, sl, il, st0, b2⟩ hacc hal => ?_)
  · rw [List.length_map] at hj
    have hy := y.2
    rw [List.getElem?_map, List.getElem?_eq_getElem hj] at hy
    have e1 : V.ref bs[j] = x := Option.some.inj hy
    subst e1
    have hjs : j < σs.length := by omega
    obtain ⟨k1, k2, k3⟩ := hss j _ _ (List.getElem?_eq_getElem hjs) (List.getElem?_eq_getElem hj)
    obtain ⟨C2, sh2, va2⟩ := id gi2
    refine iteT (B := Cf H2) ?_
    refine ⟨_, rfl, G.S, _, _, rfl, sh2.self, (gn _ (by decide +kernel) (by decide +kernel) (by decide +kernel) (by decide +kernel) (by decide +kernel) (by decide +kernel)), _, rfl, _, _, rfl, G, 0, SS2, KQ, bs[j], σs[j], rfl, rfl, gi2, key_fz k1 (gi.btfz b2), k2, k3, by omega, fun n SS' H4 b4 gi4 ext e4 => ?_⟩
    have hD4 := b4 _ _ nD hacc
    have xt := ext_of ext
    have hlen' : SS'.length ≤ j + 1 := by
      rcases ext with e | e
      · rw [e]; omega
      · rw [e, List.length_append]; exact Nat.succ_le_succ sl
    refine kt _ H4 hD4 (by rw [sizeLine_eq]; omega) ⟨SS', ix ++ [n], by rw [ea, List.map_append]; rfl, gi4.updL hD4 nD, hlen', by rw [List.length_append, il]; rfl, fun i σ m f1 f2 => ?_, fun x o n e => by rw [upd_ne (ne_of_none e hD)]; exact b4 x o n (b2 x o n e)⟩
    by_cases hi : i < ix.length
    · rw [List.getElem?_append_left hi] at f2
      exact xt _ _ (st i σ m f1 f2)
    · have hi2 : i = j := by
        have := (List.getElem?_eq_some_iff.mp f2).1
        rw [List.length_append] at this
        simp at this
        omega
      subst hi2
      rw [List.getElem?_append_right (by omega), il] at f2
      simp at f2
      subst f2
      rw [List.getElem?_eq_getElem hjs] at f1
      cases f1
      exact e4
  rw [List.length_map] at sl il
  refine ⟨D, acc, rfl, .inl ⟨SqL.of hacc, fun tf htf0 => ?_⟩⟩
  have stf : Same H2 (upd H2 tf (.tup acc)) := same_new htf0 _
  have row0 : RowAt (upd H2 tf (.tup acc)) ix tf := by
    show upd H2 tf (.tup acc) tf = _
    rw [upd_same, ea]
  generalize upd H2 tf (.tup acc) = H3 at *
  intro d hd0
  have gi3 := gi2.same stf
  have nd := gi3.notown hd0
  have bt3 := b2.trans (bt_same stf)
  have hdH : ∀ b o, ¬ own G b → H b = some o → ¬ b = d := fun b o nb e z => by
    have := bt3 b o nb e
    rw [z, hd0] at this
    cases this
  have sd : Same H3 (upd H3 d (.dT [])) := same_new hd0 _
  refine ⟨fun m σ H' => ∃ (p : Nat) (u5 : Option V) (SS : List AS) (KQ' : List (List Pat)) (kv : List (List Key × V)) (c : Nat), m = 64 - p ∧ σ = [some (.ref G.S), some (.ref l), some (.ref tf), some (.ref d), some (.int (p : Nat)), u5, none, none, none] ∧ Bt G H H' ∧ GI P w N G R c SS KQ' H' ∧ H' d = some (.dT kv) ∧ RowAt H' ix tf ∧ Ext SS0 SS ∧ p ≤ SS.length ∧ c ≤ 2000 * p ∧ kv.length ≤ c ∧ ∀ i j : Nat, i < p → j < p → EntOK R SS kv i j,
    ⟨64, 0, none, SS0, KQ, [], 0, rfl, rfl, bt3.trans (bt_same sd), gi3.same sd, upd_same, sd _ _ row0, Ext.refl _, Nat.zero_le _, Nat.zero_le _, Nat.le_refl _, fun i j h => absurd h (Nat.not_lt_zero _)⟩, ?_⟩
  rintro m σ H' ⟨p, u5, SS, KQ', kv, c, rfl, rfl, bt, gi, hd, row, ext, hpl, hc, hkl, ent⟩
  obtain ⟨C4, sh4, va4⟩ := id gi
  have few := gi.few
  refine ⟨_, rfl, _, rfl, G.S, _, _, _, _, rfl, sh4.self, T.cl_BookGrower, T.na_BookGrower_states, hg.2.1, G.ls, _, rfl, .inl (SqL.of sh4.st), _, _, rfl, rfl, _, rfl, ?_⟩
  rw [List.length_map, va4.len]
  by_cases hpS : p < SS.length
  · rw [decide_eq_true (by omega)]
    refine iteT ?_
    refine ⟨fun σ' H'' => ∃ m', m' < 64 - p ∧ _, fun σ' H'' h => h, ?_⟩
    refine ⟨_, rfl, _, _, rfl, rfl, (p : Int) + 1, rfl, by omega, by omega, ?_⟩
    refine for_range (n := ((p : Int) + 1).toNat) (fun q σ H' => ∃ (u5 : Option V) (SS : List AS) (KQ' : List (List Pat)) (kv : List (List Key × V)) (c : Nat), σ = [some (.ref G.S), some (.ref l), some (.ref tf), some (.ref d), some (.int (p : Nat)), u5, none, none, none] ∧ Bt G H H' ∧ GI P w N G R c SS KQ' H' ∧ H' d = some (.dT kv) ∧ RowAt H' ix tf ∧ Ext SS0 SS ∧ p < SS.length ∧ c ≤ 2000 * p + 20 * q ∧ kv.length ≤ c ∧ ∀ i j : Nat, (i < p ∧ j < p) ∨ (i = p ∧ j < q) ∨ (j = p ∧ i < q) → EntOK R SS kv i j) ?_ ?_ ?_
    · exact ⟨u5, SS, KQ', kv, c, rfl, bt, gi, hd, row, ext, hpS, by omega, hkl, fun i j h => by
        rcases h with h | h | h
        · exact ent i j h.1 h.2
        · omega
        · omega⟩
    · clear row ent hkl hc hpl ext hd gi bt few sh4 va4 C4 hpS
      clear u5 SS KQ' kv c
      rintro q σ H' hq ⟨u5, SSo, KQo, kvo, co, rfl, bto, gio, hdo, rowo, exto, hpo, hco, hklo, ento⟩
      rw [Int.zero_add]
      have hqp : q ≤ p := by omega
      have hqo : q < SSo.length := by omega
      have few0 := gio.few
      obtain ⟨as1, a1, u11, u21, u31, u41, u51⟩ := gio.state hpo
      obtain ⟨as21, a21, _, v21, _, v41, v51⟩ := gio.state hqo
      have es1 : as21 = as1 := by
        rw [u21] at v21
        have := Option.some.inj v21
        injection this with this
        exact (List.map_inj_right (fun x y e => by injection e)).mp this.symm
      subst es1
      have gx1 := gio.good _ (List.getElem_mem hpo)
      have gy1 := gio.good _ (List.getElem_mem hqo)
      refine ⟨_, rfl, G.S, _, _, rfl, u11, (gn _ (by decide +kernel) (by decide +kernel) (by decide +kernel) (by decide +kernel) (by decide +kernel) (by decide +kernel)), ?_⟩
      refine ⟨_, rfl, G.S, _, _, rfl, u11, (gn _ (by decide +kernel) (by decide +kernel) (by decide +kernel) (by decide +kernel) (by decide +kernel) (by decide +kernel)), ?_⟩
      refine ⟨_, rfl, G.S, _, _, _, _, rfl, u11, T.cl_BookGrower, T.na_BookGrower_states, hg.2.1, _, rfl, G.ls, _, _, _, rfl, rfl, SqL.of u21, atI_nat u41, ?_⟩
      refine ⟨_, rfl, G.S, _, _, _, _, rfl, u11, T.cl_BookGrower, T.na_BookGrower_states, hg.2.1, _, rfl, G.ls, _, _, _, rfl, rfl, SqL.of u21, atI_nat v41, ?_⟩
      refine ⟨_, _, _, rfl, G, co, SSo, KQo, a1, a21, _, _, rfl, rfl, rfl, gio, u51, v51, gx1.1, gy1.1, gx1.2, gy1.2, by omega, fun t1 σ1 KQ1 Ha1 ba1 gia1 ma1 mq1 gg1 st1 ka1 => ?_⟩
      refine ⟨_, _, rfl, ⟨G, co + 9, SSo, KQ1, t1, σ1, rfl, rfl, gia1, ka1, gg1, mq1, True.intro, fun n1 SS1 Hb1 bb1 gib1 ex1 en1 => ?_⟩, hE⟩
      have bc1 := ba1.trans bb1
      have xt1 := ext_of ex1
      have hdb1 := bc1 _ _ nd hdo
      refine ⟨_, rfl, _, rfl, _, rfl, (by show 2 ≤ sizeLine; decide), fun pk1 hpk1 => ?_⟩
      have sk1 : Same Hb1 (upd Hb1 pk1 (.tup [.int (p : Nat), .int (q : Nat)])) := same_new hpk1 _
      have hdc1 := sk1 _ _ hdb1
      have few1 := gib1.few
      refine ⟨d, _, rfl, DPut.t (k := [Sum.inl (p : Int), Sum.inl (q : Int)]) hdc1 upd_same (by rw [sizeLine_eq]; omega), ?_⟩
      have gi1 := (gib1.same sk1).updD (o := .dT (putK kvo [Sum.inl (p : Int), Sum.inl (q : Int)] (.int n1))) hdc1 nd
      have fz1 : Fz (upd Hb1 pk1 (.tup [.int (p : Nat), .int (q : Nat)])) (upd (upd Hb1 pk1 (.tup [.int (p : Nat), .int (q : Nat)])) d (.dT (putK kvo [Sum.inl (p : Int), Sum.inl (q : Int)] (.int n1)))) := but_upd.fz hdc1 (fun z => z)
      have bt1 : Bt G H (upd (upd Hb1 pk1 (.tup [.int (p : Nat), .int (q : Nat)])) d (.dT (putK kvo [Sum.inl (p : Int), Sum.inl (q : Int)] (.int n1)))) := fun b o nb e => by
        rw [upd_ne (fun z => hdH b o nb e z)]
        exact sk1 _ _ (bc1 b o nb (bto b o nb e))
      have so1 : StepOK R SS1 p q n1 := ⟨_, _, _, xt1 _ _ (List.getElem?_eq_getElem hpo), xt1 _ _ (List.getElem?_eq_getElem hqo), en1, st1⟩
      have row1 : RowAt (upd (upd Hb1 pk1 (.tup [.int (p : Nat), .int (q : Nat)])) d (.dT (putK kvo [Sum.inl (p : Int), Sum.inl (q : Int)] (.int n1)))) ix tf := fz1 _ _ True.intro (sk1 _ _ ((gio.btfz bc1) _ _ True.intro rowo))
      have hd1 : (upd (upd Hb1 pk1 (.tup [.int (p : Nat), .int (q : Nat)])) d (.dT (putK kvo [Sum.inl (p : Int), Sum.inl (q : Int)] (.int n1)))) d = some (.dT (putK kvo [Sum.inl (p : Int), Sum.inl (q : Int)] (.int n1))) := upd_same
      generalize upd (upd Hb1 pk1 (.tup [.int (p : Nat), .int (q : Nat)])) d (.dT (putK kvo [Sum.inl (p : Int), Sum.inl (q : Int)] (.int n1))) = Hc1 at *
      have hp1 : p < SS1.length := Nat.lt_of_lt_of_le hpo xt1.len
      have hq1 : q < SS1.length := Nat.lt_of_lt_of_le hqo xt1.len
      have kl1 := len_putK kvo [Sum.inl (p : Int), Sum.inl (q : Int)] (.int n1)
      have ent1 : ∀ i j : Nat, EntOK R SSo kvo i j ∨ (i = p ∧ j = q) → EntOK R SS1 (putK kvo [Sum.inl (p : Int), Sum.inl (q : Int)] (.int n1)) i j := fun i j h => ent_put so1 (h.imp (fun z => z.ext xt1) id)
      generalize putK kvo [Sum.inl (p : Int), Sum.inl (q : Int)] (.int n1) = kv1 at *
      obtain ⟨as2, a2, u12, u22, u32, u42, u52⟩ := gi1.state hq1
      obtain ⟨as22, a22, _, v22, _, v42, v52⟩ := gi1.state hp1
      have es2 : as22 = as2 := by
        rw [u22] at v22
        have := Option.some.inj v22
        injection this with this
        exact (List.map_inj_right (fun x y e => by injection e)).mp this.symm
      subst es2
      have gx2 := gi1.good _ (List.getElem_mem hq1)
      have gy2 := gi1.good _ (List.getElem_mem hp1)
      refine ⟨_, rfl, G.S, _, _, rfl, u12, (gn _ (by decide +kernel) (by decide +kernel) (by decide +kernel) (by decide +kernel) (by decide +kernel) (by decide +kernel)), ?_⟩
      refine ⟨_, rfl, G.S, _, _, rfl, u12, (gn _ (by decide +kernel) (by decide +kernel) (by decide +kernel) (by decide +kernel) (by decide +kernel) (by decide +kernel)), ?_⟩
      refine ⟨_, rfl, G.S, _, _, _, _, rfl, u12, T.cl_BookGrower, T.na_BookGrower_states, hg.2.1, _, rfl, G.ls, _, _, _, rfl, rfl, SqL.of u22, atI_nat u42, ?_⟩
      refine ⟨_, rfl, G.S, _, _, _, _, rfl, u12, T.cl_BookGrower, T.na_BookGrower_states, hg.2.1, _, rfl, G.ls, _, _, _, rfl, rfl, SqL.of u22, atI_nat v42, ?_⟩
      refine ⟨_, _, _, rfl, G, (co + 9), SS1, KQ1, a2, a22, _, _, rfl, rfl, rfl, gi1, u52, v52, gx2.1, gy2.1, gx2.2, gy2.2, by omega, fun t2 σ2 KQ2 Ha2 ba2 gia2 ma2 mq2 gg2 st2 ka2 => ?_⟩
      refine ⟨_, _, rfl, ⟨G, (co + 9) + 9, SS1, KQ2, t2, σ2, rfl, rfl, gia2, ka2, gg2, mq2, True.intro, fun n2 SS2 Hb2 bb2 gib2 ex2 en2 => ?_⟩, hE⟩
      have bc2 := ba2.trans bb2
      have xt2 := ext_of ex2
      have hdb2 := bc2 _ _ nd hd1
      refine ⟨_, rfl, _, rfl, _, rfl, (by show 2 ≤ sizeLine; decide), fun pk2 hpk2 => ?_⟩
      have sk2 : Same Hb2 (upd Hb2 pk2 (.tup [.int (q : Nat), .int (p : Nat)])) := same_new hpk2 _
      have hdc2 := sk2 _ _ hdb2
      have few2 := gib2.few
      refine ⟨d, _, rfl, DPut.t (k := [Sum.inl (q : Int), Sum.inl (p : Int)]) hdc2 upd_same (by rw [sizeLine_eq]; omega), ?_⟩
      have gi2 := (gib2.same sk2).updD (o := .dT (putK kv1 [Sum.inl (q : Int), Sum.inl (p : Int)] (.int n2))) hdc2 nd
      have fz2 : Fz (upd Hb2 pk2 (.tup [.int (q : Nat), .int (p : Nat)])) (upd (upd Hb2 pk2 (.tup [.int (q : Nat), .int (p : Nat)])) d (.dT (putK kv1 [Sum.inl (q : Int), Sum.inl (p : Int)] (.int n2)))) := but_upd.fz hdc2 (fun z => z)
      have bt2 : Bt G H (upd (upd Hb2 pk2 (.tup [.int (q : Nat), .int (p : Nat)])) d (.dT (putK kv1 [Sum.inl (q : Int), Sum.inl (p : Int)] (.int n2)))) := fun b o nb e => by
        rw [upd_ne (fun z => hdH b o nb e z)]
        exact sk2 _ _ (bc2 b o nb (bt1 b o nb e))
      have so2 : StepOK R SS2 q p n2 := ⟨_, _, _, xt2 _ _ (List.getElem?_eq_getElem hq1), xt2 _ _ (List.getElem?_eq_getElem hp1), en2, st2⟩
      have row2 : RowAt (upd (upd Hb2 pk2 (.tup [.int (q : Nat), .int (p : Nat)])) d (.dT (putK kv1 [Sum.inl (q : Int), Sum.inl (p : Int)] (.int n2)))) ix tf := fz2 _ _ True.intro (sk2 _ _ ((gi1.btfz bc2) _ _ True.intro row1))
      have hd2 : (upd (upd Hb2 pk2 (.tup [.int (q : Nat), .int (p : Nat)])) d (.dT (putK kv1 [Sum.inl (q : Int), Sum.inl (p : Int)] (.int n2)))) d = some (.dT (putK kv1 [Sum.inl (q : Int), Sum.inl (p : Int)] (.int n2))) := upd_same
      generalize upd (upd Hb2 pk2 (.tup [.int (q : Nat), .int (p : Nat)])) d (.dT (putK kv1 [Sum.inl (q : Int), Sum.inl (p : Int)] (.int n2))) = Hc2 at *
      have hp2 : p < SS2.length := Nat.lt_of_lt_of_le hp1 xt2.len
      have hq2 : q < SS2.length := Nat.lt_of_lt_of_le hq1 xt2.len
      have kl2 := len_putK kv1 [Sum.inl (q : Int), Sum.inl (p : Int)] (.int n2)
      have ent2 : ∀ i j : Nat, EntOK R SS1 kv1 i j ∨ (i = q ∧ j = p) → EntOK R SS2 (putK kv1 [Sum.inl (q : Int), Sum.inl (p : Int)] (.int n2)) i j := fun i j h => ent_put so2 (h.imp (fun z => z.ext xt2) id)
      generalize putK kv1 [Sum.inl (q : Int), Sum.inl (p : Int)] (.int n2) = kv2 at *
      refine ⟨_, SS2, KQ2, kv2, (co + 9) + 9, rfl, bt2, gi2, hd2, row2, exto.trans (xt1.trans xt2), hp2, by omega, by omega, fun i j h => ?_⟩
      refine ent2 i j ?_
      by_cases e2 : i = q ∧ j = p
      · exact .inr e2
      refine .inl (ent1 i j ?_)
      by_cases e1 : i = p ∧ j = q
      · exact .inr e1
      refine .inl (ento i j ?_)
      omega
    · rintro σ H' ⟨u5, SS', KQ2, kv', c', rfl, bt', gi', hd', row', ext', hp', hc', hkl', ent'⟩
      refine ⟨_, rfl, _, _, rfl, rfl, ?_⟩
      have few' := gi'.few
      exact ⟨64 - (p + 1), by omega, p + 1, u5, SS', KQ2, kv', c', rfl, rfl, bt', gi', hd', row', ext', hp', by omega, hkl', fun i j h1 h2 => ent' i j (by omega)⟩
  · rw [decide_eq_false (by omega)]
    refine iteF ?_
    have hpe : p = SS.length := by omega
    subst hpe
    have sh := sh4
    have va := va4
    refine ⟨_, rfl, G.S, _, _, _, _, rfl, sh.self, T.cl_BookGrower, T.na_BookGrower_states, hg.2.1, G.ls, _, rfl, .inl (SqL.of sh.st), ?_⟩
    rw [List.length_map, va.len]
    refine ⟨_, rfl, (SS.length : Int), rfl, by omega, by omega, fun D hD => ?_⟩
    refine rd_lc (n := (SS.length : Int).toNat) walk_range yfn_eq hD (by rw [Int.toNat_natCast]; omega) (fun j y H' => ∃ b : Addr × List Nat, y = .ref b.1 ∧ RowAt H' b.2 b.1 ∧ b.2.length = SS.length ∧ ∀ (i m : Nat), b.2[i]? = some m → StepOK R SS j i m) (fun j y H1 H2 z ⟨b, h1, h2, h3, h4⟩ => ⟨b, h1, z _ _ True.intro h2, h3, h4⟩)
      (fun _ _ => True.intro) (fun j x H5 C hj y s5 k5 => ?_) (fun H5 acc s5 hacc hl2 hf => ?_)
    · rw [Int.toNat_natCast] at hj
      have ey : x = .int (j : Int) := by
        rw [y.2]
        show V.int (0 + (j : Int)) = _
        rw [Int.zero_add]
      subst ey
      refine ⟨_, rfl, (SS.length : Int), rfl, by omega, by omega, fun D2 hD2 => ?_⟩
      refine rd_lc (n := (SS.length : Int).toNat) walk_range yfn_eq hD2 (by rw [Int.toNat_natCast]; omega) (fun i y H' => ∃ m : Nat, y = .int m ∧ StepOK R SS j i m) (fun i y H1 H2 z q => q)
        (fun _ _ => True.intro) (fun i x H6 C6 hi y s6 k6 => ?_) (fun H6 acc6 s6 hacc6 hl6 hf6 => ?_)
      · rw [Int.toNat_natCast] at hi
        have ey : x = .int (i : Int) := by
          rw [y.2]
          show V.int (0 + (i : Int)) = _
          rw [Int.zero_add]
        subst ey
        obtain ⟨m, e1, e2⟩ := ent j i hj hi
        refine ⟨_, rfl, _, rfl, _, rfl, (by show 2 ≤ sizeLine; decide), fun pk hpk => ?_⟩
        have sk : Same H6 (upd H6 pk (.tup [.int (j : Nat), .int (i : Nat)])) := same_new hpk _
        refine ⟨d, .int m, rfl, ?_, k6 _ _ sk ⟨m, rfl, e2⟩⟩
        have q := DGet.t (k := [Sum.inl (j : Int), Sum.inl (i : Int)]) (b := pk) (sk _ _ (s6 _ _ (s5 _ _ hd))) upd_same
        rw [e1] at q
        exact q
      · rw [Int.toNat_natCast] at hl6 hf6
        obtain ⟨row6, e1, e2, e3⟩ := acc_of (f := fun (n : Nat) => V.int (n : Int)) hl6 hf6
        refine ⟨D2, acc6, rfl, .inl ⟨SqL.of hacc6, fun t6 ht6 => ?_⟩⟩
        refine k5 _ _ (s6.trans (same_new ht6 _)) ⟨(t6, row6), rfl, ?_, e2, e3⟩
        show upd H6 t6 _ t6 = _
        rw [upd_same, e1]
    · rw [Int.toNat_natCast] at hl2 hf
      obtain ⟨prs, e1, e2, e3⟩ := acc_of (f := fun (b : Addr × List Nat) => V.ref b.1) hl2 hf
      refine ⟨_, rfl, _, rfl, D, acc, rfl, .inl ⟨SqL.of hacc, fun tm htm => ?_⟩⟩
      have sm : Same H5 (upd H5 tm (.tup acc)) := same_new htm _
      have etm : upd H5 tm (.tup acc) tm = some (.tup acc) := upd_same
      generalize upd H5 tm (.tup acc) = H6 at *
      refine ⟨(by show 2 ≤ sizeLine; decide), fun t ht => ?_⟩
      have st : Same H6 (upd H6 t (.tup [.ref tf, .ref tm])) := same_new ht _
      have sall := s5.trans (sm.trans st)
      refine k t _ SS KQ' c ix (prs.map (·.2)) tf tm (bt.trans (bt_same sall)) (gi.same sall) (fun σ hσ => (gi.good σ hσ).2) upd_same (sall _ _ row) (by rw [il, hbl]) (fun i σ n h1 h2 => ext _ _ (st0 i σ n h1 h2)) ⟨prs.map (·.1), ?_, by rw [List.length_map, List.length_map], fun i r a h1 h2 => ?_⟩ (by rw [List.length_map, e2]) (fun r hr2 => ?_) (fun i j r n h1 h2 => ?_)
      · rw [st _ _ etm, e1, List.map_map]
        rfl
      · rw [List.getElem?_map] at h1 h2
        obtain ⟨b, f1, f2⟩ := Option.map_eq_some_iff.mp h1
        rw [f1] at h2
        subst f2
        cases h2
        exact st _ _ (sm _ _ (e3 i b f1).1)
      · obtain ⟨b, f1, f2⟩ := List.mem_map.mp hr2
        obtain ⟨i, hi⟩ := List.getElem?_of_mem f1
        rw [← f2]
        exact (e3 i b hi).2.1
      · rw [List.getElem?_map] at h1
        obtain ⟨b, f1, f2⟩ := Option.map_eq_some_iff.mp h1
        subst f2
        exact (e3 i b f1).2.2 j n h2
end
end KG
end
section
set_option Elab.async false
set_option linter.all false
set_option autoImplicit false
set_option maxRecDepth 100000
set_option maxHeartbeats 4000000
/-! ## machine_of -/
namespace KG
open PySem PySem.Spec PyProof.Rows L2 KM
open C8 (Cal Met Mak pe_c pe_mk pe_mt pe_mt0)
open KN (NKey NDict KeyAt ND NEnt)
/-- the five tables of a machine -/
structure MachAt (R : List Rl) (H : Hp) (m : Addr) (SS : List AS) (ix : List Nat) (M : List (List Nat)) (ms : List Nat) (names : List Str) : Prop where
  at_ : ∃ a0 a1 a2 a3 a4 ob, H m = some (.tup [.ref a0, .ref a1, .ref a2, .ref a3, .ref a4]) ∧ H a0 = some (strT (R.map (·.1))) ∧ (H a1 = some (.frz ob (.tup (names.map V.str))) ∧ ob.dict = none) ∧ RowAt H ix a2 ∧ MatAt H a3 M ∧ RowAt H ms a4
  good : ∀ σ ∈ SS, Good R σ
  few : SS.length ≤ 64
  nd : names.Nodup
  nms : ∀ s, s ∈ names ↔ ∃ r ∈ R, r.2.1 = s
  ixl : ix.length = names.length + 1
  ixs : ∀ (i : Nat) (s : Str) (n : Nat), names[i]? = some s → ix[i]? = some n → SS[n]? = some (startAS R s)
  ixe : ∀ n, ix[names.length]? = some n → SS[n]? = some (startAS R (Str.ofString ""))
  ml : M.length = SS.length
  rl : ∀ row ∈ M, row.length = SS.length
  st : ∀ (i j : Nat) (row : List Nat) (n : Nat), M[i]? = some row → row[j]? = some n → StepOK R SS i j n
  msl : ms.length = SS.length
  mks : ∀ (i : Nat) (σ : AS) (n : Nat), SS[i]? = some σ → ms[i]? = some n → n = maskOf (σ.map (·.any bare))
theorem RowAt.fz {H H' : Hp} (z : Fz H H') {row : List Nat} {a : Addr} (h : RowAt H row a) : RowAt H' row a := z _ _ True.intro h
theorem MatAt.fz {H H' : Hp} (z : Fz H H') {a : Addr} {M : List (List Nat)} (h : MatAt H a M) : MatAt H' a M := by
  obtain ⟨rts, e1, e2, e3⟩ := h
  exact ⟨rts, z _ _ True.intro e1, e2, fun i row b f1 f2 => (e3 i row b f1 f2).fz z⟩
theorem MachAt.fz {R : List Rl} {H H' : Hp} {m : Addr} {SS : List AS} {ix : List Nat} {M : List (List Nat)} {ms : List Nat} {names : List Str} (z : Fz H H') (h : MachAt R H m SS ix M ms names) : MachAt R H' m SS ix M ms names := by
  obtain ⟨a0, a1, a2, a3, a4, ob, e1, e2, e3, e4, e5, e6⟩ := h.at_
  exact ⟨⟨a0, a1, a2, a3, a4, ob, z _ _ True.intro e1, z _ _ True.intro e2, ⟨z _ _ True.intro e3.1, e3.2⟩, e4.fz z, e5.fz z, e6.fz z⟩, h.good, h.few, h.nd, h.nms, h.ixl, h.ixs, h.ixe, h.ml, h.rl, h.st, h.msl, h.mks⟩
section
variable {P : Program} {w : World} {K : PySem.W.Frag} {mg : Str → Option Value} {base : Heap} {N : Nm} {R : List Rl}
def spMachine (N : Nm) (R : List Rl) : Sp := fun vs H Q E => ∃ u, vs = [u] ∧ (∃ (t : Addr) (rs : List Addr), u = .ref t ∧ H t = some (.tup (rs.map V.ref)) ∧ RulesAt N H R rs ∧
  ∀ m H' SS ix M ms names, Same H H' → MachAt R H' m SS ix M ms names → Q (.ref m) H') ∧ ∀ H', E (.ref N.many) none H'
theorem scMachine : FnScope ["book", "grower", "names", "starts", "steps", "marks", "rule", "name", "state"] ["book"] (defScope sMachineOf) := ⟨rfl, rfl, rfl, by decide +kernel, rfl, by decide +kernel, by decide +kernel⟩
theorem bt_back {G : GAd} {H0 H1 H2 : Hp} (s : Same H0 H1) (b : Bt G H1 H2) (o : ∀ x, own G x → H0 x = none) : Same H0 H2 := fun x u e => b x u (fun z => by rw [o x z] at e; cases e) (s x u e)
/-- one text read off each rule -/
theorem rule_item {H : Hp} {rs : List Addr} (h : RulesAt N H R rs) {j : Nat} (hj : j < rs.length) {x : V} (e : (rs.map V.ref)[j]? = some x) : ∃ (r : Rl) (b : Addr), R[j]? = some r ∧ x = .ref rs[j] ∧ H rs[j] = some (.tup [.str r.1, .str r.2.1, .ref b]) ∧ PatAt N H r.2.2 b := by
  rw [List.getElem?_map, List.getElem?_eq_getElem hj] at e
  have e1 : V.ref rs[j] = x := Option.some.inj e
  have hjR : j < R.length := by rw [← h.1]; exact hj
  obtain ⟨b, f1, f2⟩ := h.2 j _ _ (List.getElem?_eq_getElem hjR) (List.getElem?_eq_getElem hj)
  exact ⟨R[j], b, List.getElem?_eq_getElem hjR, e1.symm, f1, f2⟩
theorem body_machine (T : Tx K mg N) (ok : RulesOk R) : Body (L2.CX P w) P w K mg base ["book", "grower", "names", "starts", "steps", "marks", "rule", "name", "state"] "machine_of" sMachineOf 45 (spMachine N R) := by
  intro f cdv A outer s H vs Q E hr h
  obtain ⟨_, rfl, ⟨t, rs, rfl, ht, hrs, k⟩, hE⟩ := h
  refine ⟨_, pss_cons (ps_set (i := 1) scMachine.nd rfl (Or.inr rfl) (pe_mk (ok_BInit T R) hr (by decide) rfl (pa_cons (pv 0) pa_nil)))
    (pss_cons (ps_set (i := 2) scMachine.nd rfl (Or.inl rfl) (pe_callB (KS.cr_sortedSetS rfl) (by rfl) T.z_sorted (by decide +kernel) (pa_cons (pe_callTy (KS.cr_setOfS rfl) rfl T.z_set PyProof.Rows.boot_set (pa_cons
      (pe_lc (own := [("rule", 6)]) (g := gName 6) (tt := tYes) (te := tOp (rIxT K) (tVar 6) (tC (.int 1))) rfl scMachine.nd (pi_tup (pv 0)) (blkOk_by (N := ["book", "grower", "names", "starts", "steps", "marks", "rule", "name", "state"]) (sc := defScope sMachineOf) (by decide +kernel))
        (fun _ _ _ _ _ => pg_name (i := 6) scMachine.nd rfl (Or.inl rfl)) (fun _ _ _ _ _ => pts_nil) (fun _ _ _ _ _ => pe_ix ix_tup (pv 6) pe_int (fun _ _ => rfl))) pa_nil)) pa_nil)))
    (pss_cons (ps_asg (pe_mtX (ok_tables (P := P) (w := w) (base := base) T ok) (passes_call (takes_of rfl rfl rfl rfl) (fun _ _ _ _ h => h)) hr (by decide) (pv 1) (pa_cons (pe_op op_cat
        (pe_lc (own := [("name", 7)]) (g := gName 7) (tt := tYes) (te := tMeth N.grow "start" (spStart P w N R) [] C8.E0 (tVar 1) (tCons (tVar 7) tNil)) rfl scMachine.nd (pi_list (pv 2)) (blkOk_by (N := ["book", "grower", "names", "starts", "steps", "marks", "rule", "name", "state"]) (sc := defScope sMachineOf) (by decide +kernel))
          (fun _ _ _ _ _ => pg_name (i := 7) scMachine.nd rfl (Or.inl rfl)) (fun _ _ _ _ _ => pts_nil) (fun _ _ _ _ _ => pe_mt (ok_start (P := P) (w := w) (base := base) T ok) hr (by decide) (pv 1) (pa_cons (pv 7) pa_nil)))
        (pe_lst (pa_cons (pe_mt (ok_start (P := P) (w := w) (base := base) T ok) hr (by decide) (pv 1) (pa_cons pe_str pa_nil)) pa_nil))) pa_nil))
        (pg_tup (by rfl) (pgs_cons (pg_name (i := 3) scMachine.nd rfl (Or.inl rfl)) (pgs_cons (pg_name (i := 4) scMachine.nd rfl (Or.inl rfl)) pgs_nil))))
    (pss_cons (ps_set (i := 5) scMachine.nd rfl (Or.inl rfl) (pe_callTy call_tuple_of rfl T.z_tuple boot_tuple (pa_cons
      (pe_lc (own := [("state", 8)]) (g := gName 8) (tt := tYes) (te := tCall spMark [] C8.E0 (tCons (tMeth N.grow "ends" (spEnds P w N R) [] C8.E0 (tVar 1) (tCons (tVar 8) tNil)) tNil)) rfl scMachine.nd (pi_list (pe_fld (pv 1) rfl)) (blkOk_by (N := ["book", "grower", "names", "starts", "steps", "marks", "rule", "name", "state"]) (sc := defScope sMachineOf) (by decide +kernel))
        (fun _ _ _ _ _ => pg_name (i := 8) scMachine.nd rfl (Or.inl rfl)) (fun _ _ _ _ _ => pts_nil) (fun _ _ _ _ _ => pe_c (ok_mark_of T) hr (by decide) rfl (pa_cons (pe_mt (ok_ends (P := P) (w := w) (base := base) T ok) hr (by decide) (pv 1) (pa_cons (pv 8) pa_nil)) pa_nil))) pa_nil)))
    (pss_one (ps_ret (pe_tup (pa_cons (pe_callTy call_tuple_of rfl T.z_tuple boot_tuple (pa_cons
      (pe_lc (own := [("rule", 6)]) (g := gName 6) (tt := tYes) (te := tOp (rIxT K) (tVar 6) (tC (.int 0))) rfl scMachine.nd (pi_tup (pv 0)) (blkOk_by (N := ["book", "grower", "names", "starts", "steps", "marks", "rule", "name", "state"]) (sc := defScope sMachineOf) (by decide +kernel))
        (fun _ _ _ _ _ => pg_name (i := 6) scMachine.nd rfl (Or.inl rfl)) (fun _ _ _ _ _ => pts_nil) (fun _ _ _ _ _ => pe_ix ix_tup (pv 6) pe_int (fun _ _ => rfl))) pa_nil))
      (pa_cons (pe_callTy KR.call_tupleE rfl T.z_tuple boot_tuple (pa_cons (pv 2) pa_nil)) (pa_cons (pv 3) (pa_cons (pv 4) (pa_cons (pv 5) pa_nil))))))))))), ?_⟩
  have hrl := hrs.1
  have h8 := ok.1
  refine ⟨_, rfl, fun S dx hS hdx hne => ?_⟩
  have sI : Same H (upd (upd H dx (.own S)) S (.ins N.grow dx [])) := fun b o e => by
    rw [upd_ne (ne_of_none e hS), upd_ne (ne_of_none e hdx)]; exact e
  refine ⟨_, _, rfl, S, dx, t, rs, H, rfl, rfl, upd_same, hS, sI, ht, hrs, fun G H1 eG s1 gi1 ownN => ⟨rfl, ?_⟩⟩
  subst eG
  -- names
  refine ⟨_, rfl, t, rfl, ⟨_, SqT.of (s1 _ _ ht)⟩, fun D hD => ?_⟩
  refine rd_lc walk_tup yat_eq hD (by rw [List.length_map]; omega) (fun j y H' => ∃ r : Rl, R[j]? = some r ∧ y = .str r.2.1) (fun j y H1 H2 z q => q) (fun H' s' => SqT.of (s' _ _ (s1 _ _ ht))) (fun j x H' C hj y s' k' => ?_) (fun H2 acc s2 hacc hl2 hf => ?_)
  · rw [List.length_map] at hj
    obtain ⟨r, b, f1, f2, f3, f4⟩ := rule_item (hrs.fz (fz_same (s1.trans s'))) hj y.2
    subst f2
    exact ⟨_, rfl, rs[j], _, _, _, rfl, rfl, SqT.of f3, at1, k' _ H' (Same.refl _) ⟨r, f1, rfl⟩⟩
  rw [List.length_map] at hl2 hf
  have eacc : acc = (R.map fun r => r.2.1).map V.str := by
    rw [List.map_map]
    exact acc_map (f := V.str ∘ fun r : Rl => r.2.1) hrl hl2 hf
  subst eacc
  refine ⟨D, R.map (fun r => r.2.1), rfl, SqL.of hacc, by rw [List.length_map]; omega, fun a ha => ?_⟩
  generalize eso : KS.SetSO _ _ a (R.map fun r => r.2.1) = so
  have s3 : Same H2 (upd H2 a so) := same_new ha _
  refine ⟨a, _, rfl, by rw [upd_same, ← eso], by rw [List.length_map]; omega, fun ns ln nd hns hln => ?_⟩
  have nln := (gi1.same (s2.trans s3)).notown hln
  have s4 := s3.trans (same_new hln (.lst (ns.map V.str)))
  have eln : upd (upd H2 a so) ln (.lst (ns.map V.str)) ln = some (.lst (ns.map V.str)) := upd_same
  have s14 := s2.trans s4
  generalize upd (upd H2 a so) ln (.lst (ns.map V.str)) = H4 at *
  have hns8 : ns.length ≤ 8 := by
    have := nodup_len (xs := ns) (ys := R.map fun r => r.2.1) nd fun x hx => (hns x).mp hx
    rw [List.length_map] at this
    omega
  have gi4 := gi1.same s14
  have hnm : ∀ s, s ∈ ns ↔ ∃ r ∈ R, r.2.1 = s := fun s => by rw [hns s, List.mem_map]
  have gn := fun (m : Str) h1 h2 h3 h4 h5 h6 => gfs_none G (m := m) h1 h2 h3 h4 h5 h6
  obtain ⟨C4, sh4, va4⟩ := id gi4
  refine ⟨_, rfl, G.S, _, _, rfl, sh4.self, gn _ (by decide +kernel) (by decide +kernel) (by decide +kernel) (by decide +kernel) (by decide +kernel) (by decide +kernel), ?_⟩
  refine ⟨_, rfl, ln, rfl, ⟨_, SqL.of eln⟩, fun D2 hD2 => ?_⟩
  have nD2 := gi4.notown hD2
  -- STARTS
  refine rd_lcT walk_list yat_eq (fun j acc H5 => ∃ (KQ2 : List (List Pat)) (ts : List Addr), acc = ts.map V.ref ∧ GI P w N G R 0 [] KQ2 H5 ∧ ts.length = j ∧ (∀ (i : Nat) (s : Str) (b : Addr), ns[i]? = some s → ts[i]? = some b → KeyAt H5 (keyOf (startAS R s)) b ∧ ∀ qs ∈ startAS R s, qs ∈ KQ2) ∧ Bt G H4 H5)
    ⟨[], [], rfl, gi4.same (same_new hD2 _), rfl, fun i s b _ e => (by simp at e), bt_same (same_new hD2 _)⟩ (fun j acc H5 ⟨_, _, _, _, _, _, b5⟩ => SqL.of (b5 _ _ nln eln)) (fun j x H5 acc Ct Cf hj y ⟨KQ2, ts, ea, gi5, tl, tk, b5⟩ hacc5 hal kt kf => ?_) (fun H5 acc ⟨KQ2, ts, ea, gi5, tl, tk, b5⟩ hacc5 hal => ?_)
  · rw [List.length_map] at hj
    have hy := y.2
    rw [List.getElem?_map, List.getElem?_eq_getElem hj] at hy
    have e1 : V.str ns[j] = x := Option.some.inj hy
    subst e1
    obtain ⟨C5, sh5, va5⟩ := id gi5
    refine iteT (B := Cf H5) ?_
    refine ⟨_, rfl, G.S, _, _, rfl, sh5.self, gn _ (by decide +kernel) (by decide +kernel) (by decide +kernel) (by decide +kernel) (by decide +kernel) (by decide +kernel), _, rfl, _, _, rfl, G, 0, [], KQ2, ns[j], rfl, rfl, gi5, fun t1 KQ3 H6 b6 gi6 m6 mq6 k6 => ?_⟩
    have hD6 := b6 _ _ nD2 hacc5
    have z6 := gi5.btfz b6
    have z7 : Fz H6 (upd H6 D2 (.lst (acc ++ [.ref t1]))) := fz_updL hD6
    refine kt _ H6 hD6 (by rw [sizeLine_eq]; omega) ⟨KQ3, ts ++ [t1], by rw [ea, List.map_append]; rfl, gi6.updL hD6 nD2, by rw [List.length_append, tl]; rfl, fun i s b h1 h2 => ?_, fun x o n e => by rw [upd_ne (ne_of_none e hD2)]; exact b6 x o n (b5 x o n e)⟩
    by_cases hi : i < ts.length
    · rw [List.getElem?_append_left hi] at h2
      obtain ⟨q1, q2⟩ := tk i s b h1 h2
      exact ⟨key_fz q1 (z6.trans z7), fun qs hq => m6 qs (q2 qs hq)⟩
    · have hi2 : i = j := by
        have := (List.getElem?_eq_some_iff.mp h2).1
        rw [List.length_append] at this
        simp at this
        omega
      subst hi2
      rw [List.getElem?_append_right (by omega), tl] at h2
      simp at h2
      subst h2
      rw [List.getElem?_eq_getElem hj] at h1
      cases h1
      exact ⟨key_fz k6 z7, mq6⟩
  rw [List.length_map] at tl
  subst ea
  obtain ⟨C5, sh5, va5⟩ := id gi5
  refine ⟨_, rfl, G.S, _, _, rfl, sh5.self, gn _ (by decide +kernel) (by decide +kernel) (by decide +kernel) (by decide +kernel) (by decide +kernel) (by decide +kernel), _, _, rfl, G, 0, [], KQ2, Str.ofString "", rfl, rfl, gi5, fun t1 KQ3 H6 b6 gi6 m6 mq6 k6 => ?_⟩
  have z6 := gi5.btfz b6
  have hD6 := b6 _ _ nD2 hacc5
  refine ⟨(by show 1 ≤ sizeLine; decide), fun l1 hl1 => ?_⟩
  have s7 : Same H6 (upd H6 l1 (.lst [.ref t1])) := same_new hl1 _
  refine ⟨D2, l1, _, _, rfl, rfl, s7 _ _ hD6, upd_same, by rw [List.length_map, sizeLine_eq]; simp; omega, fun l2 hl2 => ?_⟩
  have nl2 := (gi6.same s7).notown hl2
  have s8 := s7.trans (same_new hl2 (.lst (ts.map V.ref ++ [.ref t1])))
  have el2 : upd (upd H6 l1 (.lst [.ref t1])) l2 (.lst (ts.map V.ref ++ [.ref t1])) l2 = some (.lst ((ts ++ [t1]).map V.ref)) := by
    rw [upd_same, List.map_append]; rfl
  generalize upd (upd H6 l1 (.lst [.ref t1])) l2 (.lst (ts.map V.ref ++ [.ref t1])) = H8 at *
  have z8 := z6.trans (fz_same s8)
  refine ⟨_, _, rfl, ⟨G, KQ3, l2, ts ++ [t1], ns.map (startAS R) ++ [startAS R (Str.ofString "")], rfl, rfl, gi6.same s8, el2, nl2, by rw [List.length_append, List.length_append, List.length_map, tl]; rfl, by rw [List.length_append, List.length_map]; simp; omega, fun i σ b h1 h2 => ?_, fun tt H9 SS KQ' c ix M tf tm b9 gi9 gd9 ett row9 ixl ixs mat9 ml rl st9 => ?_⟩, hE⟩
  · by_cases hi : i < ns.length
    · rw [List.getElem?_append_left (by rw [List.length_map]; exact hi), List.getElem?_map, List.getElem?_eq_getElem hi] at h1
      rw [List.getElem?_append_left (by rw [tl]; exact hi)] at h2
      have e1 : startAS R ns[i] = σ := Option.some.inj h1
      subst e1
      obtain ⟨q1, q2⟩ := tk i _ b (List.getElem?_eq_getElem hi) h2
      exact ⟨key_fz q1 z8, good_start ok _, fun qs hq => m6 qs (q2 qs hq)⟩
    · have hi2 : i = ns.length := by
        have := (List.getElem?_eq_some_iff.mp h2).1
        rw [List.length_append, tl] at this
        simp at this
        omega
      subst hi2
      rw [List.getElem?_append_right (by rw [List.length_map]; exact Nat.le_refl _), List.length_map] at h1
      rw [List.getElem?_append_right (by rw [tl]; exact Nat.le_refl _), tl] at h2
      simp at h1 h2
      subst h1 h2
      exact ⟨key_fz k6 (fz_same s8), good_start ok _, mq6⟩
  -- behind tables
  have bAll : Bt G H4 H9 := b5.trans (b6.trans ((bt_same s8).trans b9))
  have s9 : Same H H9 := bt_back (s1.trans s14) bAll ownN
  refine ⟨tt, _, rfl, SqT.of ett, rfl, _, _, rfl, _, _, rfl, rfl, ?_⟩
  obtain ⟨C9, sh9, va9⟩ := id gi9
  have hg := gfs_look G
  have few9 := gi9.few
  refine ⟨_, rfl, G.S, _, _, _, _, rfl, sh9.self, T.cl_BookGrower, T.na_BookGrower_states, hg.2.1, G.ls, rfl, ⟨_, SqL.of sh9.st⟩, fun D9 hD9 => ?_⟩
  refine rd_lc walk_list yat_eq hD9 (by rw [List.length_map, va9.len]; omega) (fun j y H' => ∃ n : Nat, y = .int n ∧ ∀ σ, SS[j]? = some σ → n = maskOf (σ.map (·.any bare))) (fun j y H1 H2 z q => q) (fun H' s' => SqL.of (s' _ _ sh9.st)) (fun j x H10 C hj y s10 k10 => ?_) (fun H10 acc s10 hacc10 hl10 hf10 => ?_)
  · rw [List.length_map] at hj
    have hjS : j < SS.length := by rw [← va9.len]; exact hj
    have hy := y.2
    rw [List.getElem?_map, List.getElem?_eq_getElem hj] at hy
    have e1 : V.ref C9.as[j] = x := Option.some.inj hy
    subst e1
    have gi10 := gi9.same s10
    obtain ⟨C10, sh10, va10⟩ := id gi10
    have ky := key_fz (va9.key j _ _ (List.getElem?_eq_getElem hjS) (List.getElem?_eq_getElem hj)) (fz_same s10)
    have gd := gi9.good _ (List.getElem_mem hjS)
    have hlen8 : (SS[j]).length ≤ 8 := by rw [gd.1.1]; exact h8
    refine ⟨_, rfl, G.S, _, _, rfl, sh10.self, gn _ (by decide +kernel) (by decide +kernel) (by decide +kernel) (by decide +kernel) (by decide +kernel) (by decide +kernel), _, rfl, _, _, rfl, G, c, SS, KQ', C9.as[j], SS[j], rfl, rfl, gi10, ky, gd.2, hlen8, fun l11 H11 s11 hl11 => ?_⟩
    exact ⟨_, rfl, l11, _, rfl, hl11, by rw [List.length_map]; exact hlen8, k10 _ H11 s11 ⟨_, rfl, fun σ e => by rw [List.getElem?_eq_getElem hjS] at e; cases e; rfl⟩⟩
  rw [List.length_map, va9.len] at hl10 hf10
  obtain ⟨ms, e1, e2, e3⟩ := acc_of (f := fun (n : Nat) => V.int (n : Int)) hl10 hf10
  refine ⟨D9, acc, rfl, .inl ⟨SqL.of hacc10, fun tms htms => ?_⟩⟩
  have s11 : Same H10 (upd H10 tms (.tup acc)) := same_new htms _
  have rowm : RowAt (upd H10 tms (.tup acc)) ms tms := by
    show upd H10 tms (.tup acc) tms = _
    rw [upd_same, e1]
  generalize upd H10 tms (.tup acc) = H11 at *
  have s9' := s10.trans s11
  have sH11 := s9.trans s9'
  refine ⟨_, rfl, t, rfl, ⟨_, SqT.of (sH11 _ _ ht)⟩, fun D12 hD12 => ?_⟩
  refine rd_lc walk_tup yat_eq hD12 (by rw [List.length_map]; omega) (fun j y H' => ∃ r : Rl, R[j]? = some r ∧ y = .str r.1) (fun j y H1 H2 z q => q) (fun H' s' => SqT.of (s' _ _ (sH11 _ _ ht))) (fun j x H' C hj y s' k' => ?_) (fun H12 acc s12 hacc12 hl12 hf12 => ?_)
  · rw [List.length_map] at hj
    obtain ⟨r, b, f1, f2, f3, f4⟩ := rule_item (hrs.fz (fz_same (sH11.trans s'))) hj y.2
    subst f2
    exact ⟨_, rfl, rs[j], _, _, _, rfl, rfl, SqT.of f3, at0, k' _ H' (Same.refl _) ⟨r, f1, rfl⟩⟩
  rw [List.length_map] at hl12 hf12
  have eacc : acc = (R.map fun r => r.1).map V.str := by
    rw [List.map_map]
    exact acc_map (f := V.str ∘ fun r : Rl => r.1) hrl hl12 hf12
  subst eacc
  refine ⟨D12, _, rfl, .inl ⟨SqL.of hacc12, fun a0 ha0 => ?_⟩⟩
  have s13 : Same H12 (upd H12 a0 (.tup ((R.map fun r => r.1).map V.str))) := same_new ha0 _
  have eln12 := s13 _ _ (s12 _ _ (s9' _ _ (bAll _ _ nln eln)))
  refine ⟨_, rfl, ln, _, rfl, SqL.of eln12, fun a1 ob hob ha1 => ?_⟩
  have s14' : Same (upd H12 a0 (.tup ((R.map fun r => r.1).map V.str))) (upd (upd H12 a0 (.tup ((R.map fun r => r.1).map V.str))) a1 (.frz ob (.tup (ns.map V.str)))) := same_new ha1 _
  refine ⟨_, rfl, _, rfl, _, rfl, (by show 5 ≤ sizeLine; decide), fun mm hmm => ?_⟩
  have s15 := s14'.trans (same_new hmm (.tup [.ref a0, .ref a1, .ref tf, .ref tm, .ref tms]))
  have s16 := s12.trans (s13.trans s15)
  have z16 := fz_same (s9'.trans s16)
  refine k mm _ SS ix M ms ns (sH11.trans s16) ⟨⟨a0, a1, tf, tm, tms, ob, upd_same, s15 _ _ upd_same, ⟨(same_new hmm _) _ _ upd_same, hob⟩, row9.fz z16, mat9.fz z16, rowm.fz (fz_same s16)⟩, fun σ hσ => (gi9.good σ hσ).1, few9, nd, hnm, ?_, fun i s n h1 h2 => ?_, fun n h1 => ?_, ml, rl, st9, e2, fun i σ n h1 h2 => e3 i n h2 σ h1⟩
  · rw [ixl, List.length_append, List.length_map]; rfl
  · have hi := (List.getElem?_eq_some_iff.mp h1).1
    exact ixs i _ n (by rw [List.getElem?_append_left (by rw [List.length_map]; exact hi), List.getElem?_map, h1]; rfl) h2
  · exact ixs ns.length _ n (by rw [List.getElem?_append_right (by rw [List.length_map]; exact Nat.le_refl _), List.length_map]; simp) h1
theorem ok_machine (T : Tx K mg N) : ∃ f fd, FnOk P w K mg base (L2.CX P w) 46 f fd ["book"] (fun vs H Q E => ∃ R, RulesOk R ∧ spMachine N R vs H Q E) ∧ mg "machine_of" = some (.ref f) ∧ PySem.W.keepIn K (.ref f) = true ∧ Binds K fd ["book"] [] := by
  obtain ⟨f, fd, F, m⟩ := T.d_machine_of.ex
  exact ⟨f, fd, F.ok scMachine (fun vs H Q E h => (by obtain ⟨_, _, _, rfl, _⟩ := h; rfl)) (k := 45) (fun cdv A outer s H vs Q E hr ⟨_, ok, h⟩ => body_machine T ok f cdv A outer s H vs Q E hr h), m, F.kp, F.bindsN (fun _ _ _ _ _ _ us hl => match us, hl with | [_], _ => rfl)⟩
end
end KG
end
section
set_option Elab.async false
set_option linter.all false
set_option autoImplicit false
set_option maxRecDepth 100000
set_option maxHeartbeats 4000000
/-! ## What a document's marks mean; what the states mean -/
namespace KG
open PySem PySem.Spec PyProof.Rows L2 KM
open Classical
inductive Doc where
  | mk (name : Str) (kids : List Doc)
def Doc.name : Doc → Str
  | .mk n _ => n
def Doc.kids : Doc → List Doc
  | .mk _ ks => ks
noncomputable def foR (R : List Rl) (nm : Str) (row : KM.Row) : List Str := (R.filter fun r => decide (r.2.1 = nm ∧ L r.2.2 row)).map (·.1)
mutual
noncomputable def fo (R : List Rl) : Doc → List Str
  | .mk nm kids => foR R nm (fos R kids)
noncomputable def fos (R : List Rl) : List Doc → KM.Row
  | [] => []
  | d :: ds => fo R d :: fos R ds
end
theorem fos_map (R : List Rl) (ds : List Doc) : fos R ds = ds.map (fo R) := by
  induction ds with
  | nil => rw [fos]; rfl
  | cons d ds ih => rw [fos, ih]; rfl
theorem fo_eq (R : List Rl) (d : Doc) : fo R d = foR R d.name (d.kids.map (fo R)) := by
  cases d with
  | mk n ks => rw [fo, fos_map]; rfl
/-- a state behind a row of children -/
def SemR (R : List Rl) (nm : Str) (row : KM.Row) (σ : AS) : Prop := ∀ (i : Nat) (r : Rl) (qs : List Pat), R[i]? = some r → σ[i]? = some qs → ∀ rest : KM.Row, (∃ q ∈ qs, L q rest) ↔ (r.2.1 = nm ∧ L r.2.2 (row ++ rest))
theorem sem_start (R : List Rl) (nm : Str) : SemR R nm [] (startAS R nm) := by
  intro i r qs e1 e2 rest
  unfold startAS at e2
  rw [List.getElem?_map, e1] at e2
  have e3 : (if r.2.1 = nm then [r.2.2] else []) = qs := Option.some.inj e2
  subst e3
  rw [List.nil_append]
  by_cases h : r.2.1 = nm
  · rw [if_pos h]; simp [h]
  · rw [if_neg h]; simp [h]
theorem sem_none (R : List Rl) (nm s : Str) (h1 : ∀ r ∈ R, r.2.1 ≠ nm) (h2 : ∀ r ∈ R, r.2.1 ≠ s) : SemR R nm [] (startAS R s) := by
  intro i r qs e1 e2 rest
  have := sem_start R s i r qs e1 e2 rest
  rw [this]
  have hr := List.mem_of_getElem? e1
  constructor
  · rintro ⟨z, _⟩; exact absurd z (h2 r hr)
  · rintro ⟨z, _⟩; exact absurd z (h1 r hr)
theorem sem_step {R : List Rl} (ok : RulesOk R) {nm : Str} {row : KM.Row} {fs : List Str} {σ σ' : AS} (g : Good R σ) (h : SemR R nm row σ) (s : StepAS fs σ σ') : SemR R nm (row ++ [fs]) σ' := by
  intro i r qs' e1 e2 rest
  have hi : i < σ.length := by
    have := (List.getElem?_eq_some_iff.mp e2).1
    rw [s.1] at this
    exact this
  have e3 := List.getElem?_eq_getElem hi
  have key := h i r _ e1 e3 (fs :: rest)
  rw [List.append_assoc]
  show _ ↔ (r.2.1 = nm ∧ L r.2.2 (row ++ (fs :: rest)))
  rw [← key]
  have st := s.2 i _ qs' e3 e2
  have hcn : ∀ q ∈ σ[i], Cn q := fun q hq => (dd_ok ok ((g.vq _ (List.getElem_mem hi)).dd q hq)).1
  constructor
  · rintro ⟨x, hx, hl⟩
    obtain ⟨q, hq, hx2⟩ := (st x).mp hx
    exact ⟨q, hq, (left_iff q (cn_wf q (hcn q hq)) fs rest).mpr ⟨x, hx2, hl⟩⟩
  · rintro ⟨q, hq, hl⟩
    obtain ⟨x, hx, hl2⟩ := (left_iff q (cn_wf q (hcn q hq)) fs rest).mp hl
    exact ⟨x, (st x).mpr ⟨q, hq, hx⟩, hl2⟩
theorem sem_forms {R : List Rl} (ok : RulesOk R) {nm : Str} {row : KM.Row} {σ : AS} (g : Good R σ) (h : SemR R nm row σ) : formsOf R σ = foR R nm row := by
  have hb : ∀ (i : Nat) (r : Rl) (qs : List Pat), R[i]? = some r → σ[i]? = some qs → (qs.any bare = decide (r.2.1 = nm ∧ L r.2.2 row)) := fun i r qs e1 e2 => by
    have := h i r qs e1 e2 []
    rw [List.append_nil] at this
    rw [Bool.eq_iff_iff, decide_eq_true_iff, ← this, List.any_eq_true]
    have hcn : ∀ q ∈ qs, Cn q := fun q hq => (dd_ok ok ((g.vq _ (List.mem_of_getElem? e2)).dd q hq)).1
    constructor
    · rintro ⟨q, hq, hl⟩; exact ⟨q, hq, (bare_iff q (cn_wf q (hcn q hq))).mp hl⟩
    · rintro ⟨q, hq, hl⟩; exact ⟨q, hq, (bare_iff q (cn_wf q (hcn q hq))).mpr hl⟩
  have hl := g.1
  clear g h ok
  unfold formsOf foR
  induction R generalizing σ with
  | nil => rfl
  | cons r R ih =>
    cases σ with
    | nil => simp at hl
    | cons qs σ =>
      have h0 := hb 0 r qs rfl rfl
      have ih2 := ih (σ := σ) (fun i r' qs' e1 e2 => hb (i + 1) r' qs' e1 e2) (by simpa using hl)
      rw [List.zip_cons_cons, List.filter_cons, List.filter_cons]
      dsimp only
      rw [← h0]
      by_cases hq : qs.any bare = true
      · rw [if_pos hq, if_pos hq, List.map_cons, List.map_cons, ih2]
      · rw [if_neg hq, if_neg hq, ih2]
/-! ### documents as data -/
mutual
def docD : Doc → Dt
  | .mk n ks => .tup [.str n, .tup (docDs ks)]
def docDs : List Doc → List Dt
  | [] => []
  | d :: ds => docD d :: docDs ds
end
theorem docDs_map (ds : List Doc) : docDs ds = ds.map docD := by
  induction ds with
  | nil => rw [docDs]; rfl
  | cons d ds ih => rw [docDs, ih]; rfl
mutual
def dep : Doc → Nat
  | .mk _ ks => deps ks + 1
def deps : List Doc → Nat
  | [] => 0
  | d :: ds => max (dep d) (deps ds)
end
mutual
def siz : Doc → Nat
  | .mk _ ks => sizs ks + 1
def sizs : List Doc → Nat
  | [] => 0
  | d :: ds => siz d + sizs ds
end
theorem deps_mem {d : Doc} : ∀ {ds : List Doc}, d ∈ ds → dep d ≤ deps ds
  | [], h => by cases h
  | e :: ds, h => by
    rw [deps]
    rcases List.mem_cons.mp h with h | h
    · subst h; omega
    · have := deps_mem h; omega
theorem siz_pos (d : Doc) : 1 ≤ siz d := by cases d with | mk n ks => rw [siz]; omega
theorem dep_pos (d : Doc) : 1 ≤ dep d := by cases d with | mk n ks => rw [dep]; omega
theorem sizs_len : ∀ ds : List Doc, ds.length ≤ sizs ds
  | [] => by simp
  | d :: ds => by
    have := sizs_len ds
    have := siz_pos d
    rw [sizs, List.length_cons]
    omega
/-- a document in the heap -/
theorem doc_at {H : Hp} {d : Doc} {v : V} (h : DAt H (docD d) v) : ∃ a t vs, v = .ref a ∧ H a = some (.tup [.str d.name, .ref t]) ∧ H t = some (.tup vs) ∧ DAts H (docDs d.kids) vs := by
  cases d with
  | mk n ks =>
    rw [docD, DAt] at h
    obtain ⟨a, xs, e, ha, hs⟩ := h
    match xs, hs with
    | [x, y], hs =>
      rw [DAts, DAts, DAts] at hs
      obtain ⟨h1, h2, _⟩ := hs
      have h1 : x = .str n := by rw [DAt] at h1; exact h1
      rw [DAt] at h2
      subst h1
      obtain ⟨t, vs, e2, ht, hv⟩ := h2
      subst e2
      exact ⟨a, t, vs, e, ha, ht, hv⟩
    | [], hs => simp [DAts] at hs
    | [x], hs => simp [DAts] at hs
    | x :: y :: z :: xs, hs => simp [DAts] at hs
end KG
end
section
set_option Elab.async false
set_option linter.all false
set_option autoImplicit false
set_option maxRecDepth 100000
set_option maxHeartbeats 4000000
/-! ## book_of, start_of, forms_of -/
namespace KG
open PySem PySem.Spec PyProof.Rows L2 KM
open C8 (Cal Met Mak pe_c pe_mk pe_mt pe_mt0)
section
variable {P : Program} {w : World} {K : PySem.W.Frag} {mg : Str → Option Value} {base : Heap} {N : Nm} {R : List Rl}
def BookOk (R : List Rl) : Prop := 0 < R.length ∧ R.length ≤ 8 ∧ (R.map (·.1)).Nodup ∧ ∀ r ∈ R, dp r.2.2 ≤ 12 ∧ (fm r.2.2).length ≤ 60 ∧ ∀ f ∈ fm r.2.2, f ∈ R.map (·.1)
def spBook (N : Nm) (R : List Rl) : Sp := sp1 fun v H Q => ∃ (l : Addr) (rs : List Addr), v = .ref l ∧ H l = some (.lst (rs.map V.ref)) ∧ RulesAt N H R rs ∧ ∀ t H', Same H H' → H' t = some (.tup (rs.map V.ref)) → Q (.ref t) H'
theorem scBook : FnScope ["rules", "known", "k", "form"] ["rules"] (defScope sBookOf) := ⟨rfl, rfl, rfl, by decide +kernel, rfl, by decide +kernel, by decide +kernel⟩
def SeenF (kvs : List (Key × V)) (fs : List Str) : Prop := kvs.length ≤ fs.length ∧ ∀ s : Str, (valV kvs (Sum.inr s)).isSome = true ↔ s ∈ fs
theorem seenF_put {kvs : List (Key × V)} {fs : List Str} {x : Str} {v : V} (h : SeenF kvs fs) : SeenF (putK kvs (Sum.inr x) v) (fs ++ [x]) := by
  refine ⟨by have := len_putK kvs (Sum.inr x) v; have := h.1; rw [List.length_append]; simp; omega, fun s => ?_⟩
  rw [valV_put]
  by_cases e : (Sum.inr s : Key) = Sum.inr x
  · injection e with e
    subst e
    simp
  · rw [if_neg e, h.2 s]
    constructor
    · intro hs; exact List.mem_append_left _ hs
    · intro hs
      rcases List.mem_append.mp hs with hs | hs
      · exact hs
      · exact absurd (by rw [List.mem_singleton.mp hs]) e
theorem body_book (T : Tx K mg N) (bk : BookOk R) : Body0 P w K mg base ["rules", "known", "k", "form"] "book_of" sBookOf 24 (spBook N R) := by
  obtain ⟨RT, hrt⟩ := T.rules
  intro f cdv A outer s H vs Q E hr h
  obtain ⟨_, rfl, l, rs, rfl, hl, hrs, k⟩ := h
  obtain ⟨b1, b2, b3, b4⟩ := bk
  have hu := hu_of hr
  have hrl := hrs.1
  refine ⟨_, pss_cons (ps_if (pt_cmpR op_eq (pe_callB call_len_seq (by rfl) T.z_len PySem.boot_len (pa_cons (pv 0) pa_nil)) pe_int (nomark _)) (pss_one ps_never) pss_nil)
    (pss_cons (ps_if (pt_cmpR op_gt (pe_callB call_len_seq (by rfl) T.z_len PySem.boot_len (pa_cons (pv 0) pa_nil)) (pe_glob (v := .int 8) rfl hrt ⟨_, rfl⟩) (nomark _)) (pss_one ps_never) pss_nil)
    (pss_cons (ps_set (i := 1) scBook.nd rfl (Or.inl rfl) pe_dnewK)
    (pss_cons (ps_for PassesOwn.never rfl (pi_range1 (by rfl) T.z_range (pa_cons (pe_callB call_len_seq (by rfl) T.z_len PySem.boot_len (pa_cons (pv 0) pa_nil)) pa_nil)) (pg_name (i := 2) scBook.nd rfl (Or.inl rfl))
      (pss_cons (ps_if (pt_cmp (pc_din hu (pe_ix ix_tup (pe_ix ix_list (pv 0) (pv 2) (fun _ _ => rfl)) pe_int (fun _ _ => rfl)) (pv 1))) (pss_one ps_never) pss_nil)
        (pss_one (ps_dput hu (pv 1) (pe_ix ix_tup (pe_ix ix_list (pv 0) (pv 2) (fun _ _ => rfl)) pe_int (fun _ _ => rfl)) pe_bl rfl))))
    (pss_cons (ps_for PassesOwn.never rfl (pi_range1 (by rfl) T.z_range (pa_cons (pe_callB call_len_seq (by rfl) T.z_len PySem.boot_len (pa_cons (pv 0) pa_nil)) pa_nil)) (pg_name (i := 2) scBook.nd rfl (Or.inl rfl))
      (pss_one (ps_for PassesOwn.never rfl (pi_list (KR.pe_meth0D (pe_ix ix_tup (pe_ix ix_list (pv 0) (pv 2) (fun _ _ => rfl)) pe_int (fun _ _ => rfl)) (fun i => met_md (ok_speaks T 12 i)) hr (Nat.le_refl _))) (pg_name (i := 3) scBook.nd rfl (Or.inl rfl))
        (pss_one (ps_if (pt_cmp (pc_dnotin hu (pv 3) (pv 1))) (pss_one ps_never) pss_nil)))))
    (pss_one (ps_ret (pe_callTy call_tuple_of rfl T.z_tuple boot_tuple (pa_cons (pv 0) pa_nil)))))))), ?_⟩
  refine ⟨_, rfl, l, _, rfl, .inl (SqL.of hl), rfl, _, rfl, ?_⟩
  rw [List.length_map, dec_int, show (((rs.length : Nat) : Int) == 0) = false from by rw [beq_eq_false_iff_ne]; omega]
  refine iteF ?_
  refine ⟨_, rfl, l, _, rfl, .inl (SqL.of hl), _, _, rfl, rfl, _, rfl, ?_⟩
  rw [List.length_map, show decide (((rs.length : Nat) : Int) > 8) = false from decide_eq_false (by omega)]
  refine iteF ?_
  intro d hd0
  have sd : Same H (upd H d (.dK [])) := same_new hd0 _
  refine ⟨_, rfl, l, _, rfl, .inl (SqL.of (sd _ _ hl)), (rs.length : Int), by rw [List.length_map], by omega, by omega, for_range (n := (rs.length : Int).toNat) (fun i σ H' => ∃ u1 u2, σ = [some (.ref l), some (.ref d), u1, u2] ∧ Same H H' ∧ ∃ kvs, H' d = some (.dK kvs) ∧ SeenF kvs ((R.map (·.1)).take i)) ?_ ?_ ?_⟩
  · exact ⟨none, none, rfl, sd, [], upd_same, Nat.le_refl _, fun s => by simp [valV]⟩
  · rintro i σ H' hi ⟨u1, u2, rfl, s', kvs, hd, sn⟩
    rw [Int.toNat_natCast] at hi
    rw [Int.zero_add]
    have hx : (rs.map V.ref)[i]? = some (V.ref rs[i]) := by rw [List.getElem?_map, List.getElem?_eq_getElem hi]; rfl
    obtain ⟨r, b, f1, f2, f3, f4⟩ := rule_item (hrs.fz (fz_same s')) hi hx
    have e1 : (R.map (·.1))[i]? = some r.1 := by rw [List.getElem?_map, f1]; rfl
    refine ⟨_, rfl, _, rfl, l, _, _, _, rfl, rfl, SqL.of (s' _ _ hl), atI_nat hx, rs[i], _, _, _, rfl, rfl, SqT.of f3, at0, _, rfl, d, _, rfl, DGet.k (k := Sum.inr r.1) hd, _, rfl, ?_⟩
    cases ev : valV kvs (Sum.inr r.1) with
    | some v =>
      have : r.1 ∈ (R.map (·.1)).take i := (sn.2 r.1).mp (by rw [ev]; rfl)
      have hn := b3
      rw [← List.take_append_drop i (R.map (·.1)), List.nodup_append] at hn
      have hi2 : i < (R.map (·.1)).length := (List.getElem?_eq_some_iff.mp e1).1
      rw [List.drop_eq_getElem_cons hi2] at hn
      have e2 : (R.map (·.1))[i] = r.1 := (List.getElem?_eq_some_iff.mp e1).2
      exact absurd rfl (hn.2.2 r.1 this r.1 (by rw [e2]; exact List.mem_cons_self))
    | none =>
      refine iteF ?_
      have hkl := sn.1
      have htl : ((R.map (·.1)).take i).length ≤ 8 := by rw [List.length_take, List.length_map]; omega
      refine ⟨_, rfl, _, rfl, _, rfl, l, _, _, _, rfl, rfl, SqL.of (s' _ _ hl), atI_nat hx, rs[i], _, _, _, rfl, rfl, SqT.of f3, at0, d, _, rfl, DPut.k (k := Sum.inr r.1) hd (by rw [sizeLine_eq]; omega), ?_⟩
      refine ⟨_, _, rfl, fun x o e => by rw [upd_ne (ne_of_none e hd0)]; exact s' _ _ e, _, upd_same, ?_⟩
      rw [take_snoc e1]
      exact seenF_put sn
  · rintro σ H' ⟨u1, u2, rfl, s', kvs, hd, sn⟩
    rw [Int.toNat_natCast, List.take_of_length_le (by rw [List.length_map]; omega)] at sn
    refine ⟨_, rfl, l, _, rfl, .inl (SqL.of (s' _ _ hl)), (rs.length : Int), by rw [List.length_map], by omega, by omega, for_range (n := (rs.length : Int).toNat) (fun i σ H' => ∃ u1 u2, σ = [some (.ref l), some (.ref d), u1, u2] ∧ Same H H' ∧ H' d = some (.dK kvs)) ?_ ?_ ?_⟩
    · exact ⟨u1, u2, rfl, s', hd⟩
    · rintro i σ H2 hi ⟨u1, u2, rfl, s2, hd2⟩
      rw [Int.toNat_natCast] at hi
      rw [Int.zero_add]
      have hx : (rs.map V.ref)[i]? = some (V.ref rs[i]) := by rw [List.getElem?_map, List.getElem?_eq_getElem hi]; rfl
      obtain ⟨r, b, f1, f2, f3, f4⟩ := rule_item (hrs.fz (fz_same s2)) hi hx
      obtain ⟨c1, c2, c3⟩ := b4 r (List.mem_of_getElem? f1)
      obtain ⟨dx, fs, i1, _, _, _, i5⟩ := pat_ins f4
      refine ⟨_, rfl, _, rfl, l, _, _, _, rfl, rfl, SqL.of (s2 _ _ hl), atI_nat hx, rs[i], _, _, _, rfl, rfl, SqT.of f3, at2, kdOf r.2.2, b, dx, fs, rfl, i1, i5, _, rfl, b, r.2.2, rfl, rfl, f4, c1, c2, fun g H3 gs s3 hgg hgs hgl => ?_⟩
      have s23 := s2.trans s3
      refine ⟨g, rfl, ⟨_, SqL.of hgg⟩, for_list (xs := gs.map V.str) (fun j σ H4 => ∃ u2, σ = [some (.ref l), some (.ref d), some (.int (i : Nat)), u2] ∧ H4 = H3) ?_ ?_ ?_ ?_⟩
      · exact ⟨_, rfl, rfl⟩
      · rintro j σ H4 hj ⟨u2, rfl, rfl⟩
        exact SqL.of hgg
      · rintro j y σ H4 hy ⟨u2, rfl, rfl⟩
        rw [List.getElem?_map] at hy
        obtain ⟨y', hy1, hy2⟩ := Option.map_eq_some_iff.mp hy
        subst hy2
        have hin := c3 y' (hgs y' (List.mem_of_getElem? hy1))
        have hsome := (sn.2 y').mpr hin
        refine ⟨_, rfl, _, rfl, d, _, rfl, DGet.k (k := Sum.inr y') (s3 _ _ hd2), _, rfl, ?_⟩
        rw [hsome]
        refine iteF ?_
        exact ⟨_, rfl, rfl⟩
      · rintro σ H4 ⟨u2, rfl, rfl⟩
        exact ⟨_, _, rfl, s23, s3 _ _ hd2⟩
    · rintro σ H2 ⟨u1, u2, rfl, s2, hd2⟩
      refine ⟨_, rfl, l, _, rfl, .inl ⟨SqL.of (s2 _ _ hl), fun t ht0 => ?_⟩⟩
      exact k t _ (s2.trans (same_new ht0 _)) upd_same
theorem ok_book (T : Tx K mg N) : Cal P w K mg base 25 "book_of" (fun vs H Q E => ∃ R, BookOk R ∧ spBook N R vs H Q E) [] :=
  T.d_book_of.cal scBook (fun _ _ _ _ _ _ us hl => match us, hl with | [_], _ => rfl) (fun vs H Q E ⟨_, _, h⟩ => len1 vs H Q E h) (fun f cdv A outer s H vs Q E hr ⟨_, bk, h⟩ => body_book T bk f cdv A outer s H vs Q E hr h)
/-! ### start_of -/
def spStartOf (R : List Rl) : Sp := sp2 fun v u H Q => ∃ (m : Addr) (s : Str) (SS : List AS) (ix : List Nat) (M : List (List Nat)) (ms : List Nat) (names : List Str), v = .ref m ∧ u = .str s ∧ MachAt R H m SS ix M ms names ∧
  ∀ n : Nat, SS[n]? = some (if s ∈ names then startAS R s else startAS R (Str.ofString "")) → Q (.int n) H
theorem scStartOf : FnScope ["machine", "name"] ["machine", "name"] (defScope sStartOf) := ⟨rfl, rfl, rfl, by decide +kernel, rfl, by decide +kernel, by decide +kernel⟩
theorem sqf {K : PySem.W.Frag} {H : Hp} {a : Addr} {ob : Obj} {xs : List V} (h : H a = some (.frz ob (.tup xs))) : SqT K H a xs := .inl (.inr ⟨ob, h⟩)
theorem first_ix {xs : List Str} {s : Str} (h : s ∈ xs) : ∃ j : Nat, xs[j]? = some s ∧ ∀ m : Nat, m < j → xs[m]? ≠ some s := by
  induction xs with
  | nil => cases h
  | cons x xs ih =>
    by_cases e : x = s
    · exact ⟨0, by rw [e]; rfl, fun m hm => absurd hm (Nat.not_lt_zero _)⟩
    · obtain ⟨j, h1, h2⟩ := ih ((List.mem_cons.mp h).resolve_left fun z => e z.symm)
      refine ⟨j + 1, h1, fun m hm => ?_⟩
      cases m with
      | zero => exact fun z => e (Option.some.inj z)
      | succ m => exact h2 m (by omega)
theorem ok_start_of (T : Tx K mg N) : Cal P w K mg base 1 "start_of" (spStartOf R) [] := by
  refine T.d_start_of.cal scStartOf (fun _ _ _ _ _ _ us hl => match us, hl with | [_, _], _ => rfl) len2 (fun f cdv A outer s H vs Q E hr h => ?_)
  obtain ⟨_, _, rfl, m, nm, SS, ix, M, ms, names, rfl, rfl, ma, k⟩ := h
  refine ⟨_, pss_cons (ps_if (pt_cmpR op_in_seq (pv 1) (pe_ix ix_tup (pv 0) pe_int (fun _ _ => rfl)) (by rfl))
      (pss_one (ps_ret (pe_ix ix_tup (pe_ix ix_tup (pv 0) pe_int (fun _ _ => rfl)) (KR.pe_tindex (pe_ix ix_tup (pv 0) pe_int (fun _ _ => rfl)) (pa_cons (pv 1) pa_nil)) (fun _ _ => rfl)))) pss_nil)
    (pss_one (ps_ret (pe_ix ix_tup (pe_ix ix_tup (pv 0) pe_int (fun _ _ => rfl)) (pe_un un_neg pe_int) (fun _ _ => rfl)))), ?_⟩
  obtain ⟨a0, a1, a2, a3, a4, ob, e1, e2, ⟨e3, e3n⟩, e4, e5, e6⟩ := ma.at_
  have hixl := ma.ixl
  refine ⟨_, rfl, _, rfl, m, _, _, _, rfl, rfl, SqT.of e1, at1, a1, _, rfl, .inr (sqf e3), rfl, all_flat names, ?_⟩
  rw [inV_str]
  refine ⟨_, rfl, ?_⟩
  show if decide (nm ∈ names) = true then _ else _
  by_cases hin : nm ∈ names
  · rw [if_pos hin] at k
    rw [decide_eq_true hin]
    refine iteT ?_
    obtain ⟨j, h1, h2⟩ := first_ix hin
    have hj := (List.getElem?_eq_some_iff.mp h1).1
    have hjx : j < ix.length := by omega
    refine ⟨_, rfl, m, _, _, _, rfl, rfl, SqT.of e1, at2, _, rfl, m, _, _, _, rfl, rfl, SqT.of e1, at1, ⟨a1, ob, _, rfl, e3, e3n⟩, _, rfl, a1, names, nm, j, rfl, rfl, sqf e3, h1, h2, ?_⟩
    refine ⟨a2, _, _, _, rfl, rfl, SqT.of e4, atI_nat (j := j) (v := .int (ix[j] : Nat)) (by rw [List.getElem?_map, List.getElem?_eq_getElem hjx]; rfl), ?_⟩
    exact k _ (ma.ixs j nm _ h1 (List.getElem?_eq_getElem hjx))
  · rw [if_neg hin] at k
    rw [decide_eq_false hin]
    refine iteF ?_
    have hjx : names.length < ix.length := by omega
    have esplit : ix.map (fun (n : Nat) => V.int (n : Int)) = (ix.take names.length).map (fun (n : Nat) => V.int (n : Int)) ++ [V.int (ix[names.length] : Nat)] := by
      have := List.take_append_drop names.length ix
      rw [List.drop_eq_getElem_cons hjx, List.drop_of_length_le (by omega)] at this
      rw [← List.map_singleton (f := fun (n : Nat) => V.int (n : Int)), ← List.map_append, this]
    have e4' : H a2 = some (.tup (ix.map (fun (n : Nat) => V.int (n : Int)))) := e4
    rw [esplit] at e4'
    refine ⟨_, rfl, m, _, _, _, rfl, rfl, SqT.of e1, at2, _, rfl, a2, _, _, _, rfl, rfl, SqT.of e4', atI_last _ _, ?_⟩
    exact k _ (ma.ixe _ (List.getElem?_eq_getElem hjx))
/-! ### forms_of -/
def spFormsOf (R : List Rl) : Sp := sp2 fun v u H Q => ∃ (m : Addr) (n : Nat) (σ : AS) (SS : List AS) (ix : List Nat) (M : List (List Nat)) (ms : List Nat) (names : List Str), v = .ref m ∧ u = .int n ∧ MachAt R H m SS ix M ms names ∧ SS[n]? = some σ ∧ R.length ≤ 8 ∧
  ∀ l H', Same H H' → H l = none → H' l = some (.lst ((formsOf R σ).map V.str)) → Q (.ref l) H'
theorem scFormsOf : FnScope ["machine", "state", "found", "rest", "form"] ["machine", "state"] (defScope sFormsOf) := ⟨rfl, rfl, rfl, by decide +kernel, rfl, by decide +kernel, by decide +kernel⟩
theorem mask_mod (b : Bool) (bs : List Bool) : (maskOf (b :: bs)) % 2 = (if b then 1 else 0) ∧ maskOf (b :: bs) / 2 = maskOf bs := by
  cases b
  · rw [maskOf, if_neg Bool.false_ne_true]; omega
  · rw [maskOf, if_pos rfl]; omega
theorem body_forms_of (T : Tx K mg N) : Body0 P w K mg base ["machine", "state", "found", "rest", "form"] "forms_of" sFormsOf 0 (spFormsOf R) := by
  intro f cdv A outer s H vs Q E hr h
  obtain ⟨_, _, rfl, m, n, σ, SS, ix, M, ms, names, rfl, rfl, ma, hn, h8, k⟩ := h
  refine ⟨_, pss_cons (ps_set (i := 2) scFormsOf.nd rfl (Or.inl rfl) (pe_lst pa_nil))
    (pss_cons (ps_set (i := 3) scFormsOf.nd rfl (Or.inl rfl) (pe_ix ix_tup (pe_ix ix_tup (pv 0) pe_int (fun _ _ => rfl)) (pv 1) (fun _ _ => rfl)))
    (pss_cons (ps_for PassesOwn.never rfl (pi_tup (pe_ix ix_tup (pv 0) pe_int (fun _ _ => rfl))) (pg_name (i := 4) scFormsOf.nd rfl (Or.inl rfl))
      (pss_cons (ps_if (pt_cmpR op_eq (pe_op op_mod (pv 3) pe_int) pe_int (nomark _)) (pss_one (ps_expr (pe_bm PySem.F.plainAttrs_list PySem.F.slot_list_append PySem.F.type_list_append mt_append (pv 2) (pa_cons (pv 4) pa_nil)))) pss_nil)
        (pss_one (ps_set (i := 3) scFormsOf.nd rfl (Or.inl rfl) (pe_op op_fdiv (pv 3) pe_int)))))
    (pss_one (ps_ret (pv 2))))), ?_⟩
  refine ⟨(by show 0 ≤ sizeLine; decide), fun g hg0 => ?_⟩
  have sg : Same H (upd H g (.lst [])) := same_new hg0 _
  obtain ⟨a0, a1, a2, a3, a4, ob, e1, e2, ⟨e3, e3n⟩, e4, e5, e6⟩ := ma.at_
  have gd := ma.good _ (List.mem_of_getElem? hn)
  have hnS : n < SS.length := (List.getElem?_eq_some_iff.mp hn).1
  have hms : n < ms.length := by rw [ma.msl]; exact hnS
  have emk := ma.mks n σ ms[n] hn (List.getElem?_eq_getElem hms)
  refine ⟨_, rfl, m, _, _, _, rfl, rfl, SqT.of (sg _ _ e1), atI_nat (j := 4) rfl, _, rfl, a4, _, _, _, rfl, rfl, SqT.of (sg _ _ e6), atI_nat (j := n) (v := .int (ms[n] : Nat)) (by rw [List.getElem?_map, List.getElem?_eq_getElem hms]; rfl), ?_⟩
  refine ⟨_, rfl, m, _, _, _, rfl, rfl, SqT.of (sg _ _ e1), at0, a0, rfl, ⟨_, SqT.of (sg _ _ e2)⟩, for_tup (xs := (R.map (·.1)).map V.str) (fun i σ' H' => ∃ u, σ' = [some (.ref m), some (.int n), some (.ref g), some (.int (maskOf ((σ.drop i).map (·.any bare)) : Nat)), u] ∧ (∀ b o, b ≠ g → H b = some o → H' b = some o) ∧ H' g = some (.lst ((fofJ R σ i).map V.str))) ?_ ?_ ?_ ?_⟩
  · refine ⟨none, ?_, fun b o hb e => by rw [upd_ne hb]; exact e, upd_same⟩
    rw [List.drop_zero, ← emk]
    rfl
  · rintro i σ' H' hi ⟨u, rfl, kp, hg⟩
    exact SqT.of (kp _ _ (ne_of_none e2 hg0) e2)
  · rintro i x σ' H' hx ⟨u, rfl, kp, hg⟩
    rw [List.getElem?_map, List.getElem?_map] at hx
    obtain ⟨f0, hx1, hx2⟩ := Option.map_eq_some_iff.mp hx
    obtain ⟨r, hr1, hr2⟩ := Option.map_eq_some_iff.mp hx1
    subst hx2 hr2
    have hiR : i < R.length := (List.getElem?_eq_some_iff.mp hr1).1
    have hiS : i < σ.length := by rw [gd.1]; exact hiR
    have e7 := fof_next hr1 (List.getElem?_eq_getElem hiS)
    have hml : (fofJ R σ i).length ≤ 8 := by
      unfold fofJ
      rw [List.length_map]
      refine Nat.le_trans (List.length_filter_le _ _) ?_
      rw [List.length_take, List.length_zip]
      omega
    have edrop : (σ.drop i).map (·.any bare) = (σ[i]).any bare :: (σ.drop (i + 1)).map (·.any bare) := by
      rw [List.drop_eq_getElem_cons hiS]; rfl
    obtain ⟨q1, q2⟩ := mask_mod ((σ[i]).any bare) ((σ.drop (i + 1)).map (·.any bare))
    rw [← edrop] at q1 q2
    refine ⟨_, rfl, _, _, rfl, rfl, (by show (0 : Int) < 2; decide), rfl, _, rfl, ?_⟩
    rw [dec_int]
    have q3 : ((maskOf ((σ.drop i).map (·.any bare)) : Nat) : Int) / 2 = ((maskOf ((σ.drop (i + 1)).map (·.any bare)) : Nat) : Int) := by
      rw [← q2]; omega
    generalize maskOf ((σ.drop i).map (·.any bare)) = z at *
    cases eb : (σ[i]).any bare with
    | true =>
      rw [eb, if_pos rfl] at q1
      rw [show (((z : Nat) : Int) % 2 == 1) = true from by rw [beq_iff_eq]; omega]
      refine iteT ?_
      refine ⟨_, rfl, .inl ⟨rfl, _, SqL.of hg⟩, _, rfl, g, _, _, rfl, rfl, hg, by rw [List.length_map, sizeLine_eq]; omega, ?_⟩
      refine ⟨_, rfl, _, _, rfl, rfl, ⟨by decide, by decide⟩, ?_⟩
      refine ⟨some (.str r.1), ?_, fun b o hb e => by rw [upd_ne hb]; exact kp b o hb e, ?_⟩
      · show [some (V.ref m), some (V.int n), some (V.ref g), some (V.int (((z : Nat) : Int) / 2)), some (V.str r.1)] = _
        rw [q3]
      · rw [upd_same, e7, eb, if_pos rfl, List.map_append]; rfl
    | false =>
      rw [eb, if_neg Bool.false_ne_true] at q1
      rw [show (((z : Nat) : Int) % 2 == 1) = false from by rw [beq_eq_false_iff_ne]; omega]
      refine iteF ?_
      refine ⟨_, rfl, _, _, rfl, rfl, ⟨by decide, by decide⟩, ?_⟩
      refine ⟨some (.str r.1), ?_, kp, ?_⟩
      · show [some (V.ref m), some (V.int n), some (V.ref g), some (V.int (((z : Nat) : Int) / 2)), some (V.str r.1)] = _
        rw [q3]
      · rw [e7, eb, if_neg Bool.false_ne_true, List.append_nil]; exact hg
  · rintro σ' H' ⟨u, rfl, kp, hg⟩
    rw [List.length_map, List.length_map, fof_all gd.1] at hg
    exact ⟨_, rfl, k g H' (fun b o e => kp b o (ne_of_none e hg0) e) hg0 hg⟩
theorem ok_forms_of (T : Tx K mg N) : Cal P w K mg base 1 "forms_of" (spFormsOf R) [] := T.d_forms_of.cal scFormsOf (fun _ _ _ _ _ _ us hl => match us, hl with | [_, _], _ => rfl) len2 (body_forms_of T)
theorem ok_forms_any (T : Tx K mg N) : Cal P w K mg base 1 "forms_of" (fun vs H Q E => ∃ R, spFormsOf R vs H Q E) [] :=
  T.d_forms_of.cal scFormsOf (fun _ _ _ _ _ _ us hl => match us, hl with | [_, _], _ => rfl) (fun vs H Q E ⟨_, h⟩ => len2 vs H Q E h) (fun f cdv A outer s H vs Q E hr ⟨_, h⟩ => body_forms_of T f cdv A outer s H vs Q E hr h)
end
end KG
end
section
set_option Elab.async false
set_option linter.all false
set_option autoImplicit false
set_option maxRecDepth 100000
set_option maxHeartbeats 4000000
/-! ## state_of, mark_below, marked -/
namespace KG
open PySem PySem.Spec PyProof.Rows L2 KM
open C8 (Cal Met Mak pe_c pe_mk pe_mt pe_mt0)
/-- the rules' names are no empty text -/
def NoBlank (R : List Rl) : Prop := ∀ r ∈ R, r.2.1 ≠ Str.ofString ""
theorem docDs_get {H : Hp} {ds : List Doc} {vs : List V} (h : DAts H (docDs ds) vs) : vs.length = ds.length ∧ ∀ (i : Nat) (d : Doc), ds[i]? = some d → ∃ v, vs[i]? = some v ∧ DAt H (docD d) v := by
  refine ⟨by rw [dats_len h, docDs_map, List.length_map], fun i d e => ?_⟩
  exact dats_get h (by rw [docDs_map, List.getElem?_map, e]; rfl)
section
variable {P : Program} {w : World} {K : PySem.W.Frag} {mg : Str → Option Value} {base : Heap} {N : Nm} {R : List Rl}
/-- a state tells of a document -/
def Tells (R : List Rl) (SS : List AS) (d : Doc) (n : Nat) : Prop := ∃ σ, SS[n]? = some σ ∧ SemR R d.name (d.kids.map (fo R)) σ
theorem start_sem {SS : List AS} {names : List Str} {nm : Str} (nb : NoBlank R) (hn : ∀ s, s ∈ names ↔ ∃ r ∈ R, r.2.1 = s) : SemR R nm [] (if nm ∈ names then startAS R nm else startAS R (Str.ofString "")) := by
  by_cases h : nm ∈ names
  · rw [if_pos h]; exact sem_start R nm
  · rw [if_neg h]
    exact sem_none R nm _ (fun r hr e => h ((hn nm).mpr ⟨r, hr, e⟩)) nb
theorem start_some {H : Hp} {m : Addr} {SS : List AS} {ix : List Nat} {M : List (List Nat)} {ms : List Nat} {names : List Str} (ma : MachAt R H m SS ix M ms names) (nm : Str) : ∃ n : Nat, SS[n]? = some (if nm ∈ names then startAS R nm else startAS R (Str.ofString "")) := by
  by_cases h : nm ∈ names
  · rw [if_pos h]
    obtain ⟨j, hj⟩ := List.getElem?_of_mem h
    have h1 := (List.getElem?_eq_some_iff.mp hj).1
    exact ⟨_, ma.ixs j nm _ hj (List.getElem?_eq_getElem (by rw [ma.ixl]; omega))⟩
  · rw [if_neg h]
    exact ⟨_, ma.ixe _ (List.getElem?_eq_getElem (by rw [ma.ixl]; omega))⟩
/-- one step of the table -/
theorem mat_get {H : Hp} {m : Addr} {SS : List AS} {ix : List Nat} {M : List (List Nat)} {ms : List Nat} {names : List Str} (ma : MachAt R H m SS ix M ms names) {i : Nat} (hi : i < SS.length) :
    ∃ (a3 : Addr) (vs : List V) (rts : List Addr) (ra : Addr) (row : List Nat), H m = some (.tup vs) ∧ vs[3]? = some (.ref a3) ∧ H a3 = some (.tup (rts.map V.ref)) ∧ (rts.map V.ref)[i]? = some (.ref ra) ∧ H ra = some (.tup (row.map fun (n : Nat) => V.int (n : Int))) ∧ ∀ j, j < SS.length → ∃ n : Nat, (row.map fun (n : Nat) => V.int (n : Int))[j]? = some (.int n) ∧ StepOK R SS i j n := by
  obtain ⟨a0, a1, a2, a3, a4, ob, e1, e2, ⟨e3, e3n⟩, e4, ⟨rts, m1, m2, m3⟩, e6⟩ := ma.at_
  have hiM : i < M.length := by rw [ma.ml]; exact hi
  have hir : i < rts.length := by rw [m2]; exact hiM
  have hrow := ma.rl M[i] (List.getElem_mem hiM)
  refine ⟨a3, _, rts, rts[i], M[i], e1, rfl, m1, by rw [List.getElem?_map, List.getElem?_eq_getElem hir]; rfl, m3 i _ _ (List.getElem?_eq_getElem hiM) (List.getElem?_eq_getElem hir), fun j hj => ?_⟩
  have hjr : j < M[i].length := by rw [hrow]; exact hj
  exact ⟨M[i][j], by rw [List.getElem?_map, List.getElem?_eq_getElem hjr]; rfl, ma.st i j _ _ (List.getElem?_eq_getElem hiM) (List.getElem?_eq_getElem hjr)⟩
theorem step_tells (ok : RulesOk R) {SS : List AS} (gd : ∀ σ ∈ SS, Good R σ) {nm : Str} {row : KM.Row} {d : Doc} {i j n : Nat} (h1 : ∃ σ, SS[i]? = some σ ∧ SemR R nm row σ) (h2 : Tells R SS d j) (h3 : StepOK R SS i j n) : ∃ σ, SS[n]? = some σ ∧ SemR R nm (row ++ [fo R d]) σ := by
  obtain ⟨σ, e1, s1⟩ := h1
  obtain ⟨τ, e2, s2⟩ := h2
  obtain ⟨σ', τ', σ2, f1, f2, f3, f4⟩ := h3
  rw [e1] at f1
  rw [e2] at f2
  cases f1
  cases f2
  have e5 := sem_forms ok (gd τ (List.mem_of_getElem? e2)) s2
  rw [← fo_eq] at e5
  rw [e5] at f4
  exact ⟨σ2, f3, sem_step ok (gd σ (List.mem_of_getElem? e1)) s1 f4⟩
def spState (R : List Rl) (k : Nat) : Sp := sp2 fun v u H Q => ∃ (m : Addr) (d : Doc) (SS : List AS) (ix : List Nat) (M : List (List Nat)) (ms : List Nat) (names : List Str), v = .ref m ∧ MachAt R H m SS ix M ms names ∧ DAt H (docD d) u ∧ dep d ≤ k ∧
  ∀ n : Nat, Tells R SS d n → Q (.int n) H
theorem scState : FnScope ["machine", "doc", "state", "child"] ["machine", "doc"] (defScope sStateOf) := ⟨rfl, rfl, rfl, by decide +kernel, rfl, by decide +kernel, by decide +kernel⟩
theorem body_state (T : Tx K mg N) (ok : RulesOk R) (nb : NoBlank R) (k : Nat) (ih : Cal P w K mg base (k + 1) "state_of" (spState R k) []) : Body0 P w K mg base ["machine", "doc", "state", "child"] "state_of" sStateOf (k + 1) (spState R (k + 1)) := by
    intro f cdv A outer s H vs Q E hr h
    obtain ⟨_, u, rfl, m, d, SS, ix, M, ms, names, rfl, ma, hd, hdep, q⟩ := h
    obtain ⟨a, t, vs, rfl, ea, et, hk⟩ := doc_at hd
    obtain ⟨hkl, hkg⟩ := docDs_get hk
    have hdk : deps d.kids ≤ k := by
      cases d with
      | mk n ks => rw [dep] at hdep; show deps ks ≤ k; omega
    refine ⟨_, pss_cons (ps_set (i := 2) scState.nd rfl (Or.inl rfl) (pe_c (ok_start_of (R := R) T) hr (by omega) rfl (pa_cons (pv 0) (pa_cons (pe_ix ix_tup (pv 1) pe_int (fun _ _ => rfl)) pa_nil))))
      (pss_cons (ps_for PassesOwn.never rfl (pi_tup (pe_ix ix_tup (pv 1) pe_int (fun _ _ => rfl))) (pg_name (i := 3) scState.nd rfl (Or.inl rfl))
        (pss_one (ps_set (i := 2) scState.nd rfl (Or.inl rfl) (pe_ix ix_tup (pe_ix ix_tup (pe_ix ix_tup (pv 0) pe_int (fun _ _ => rfl)) (pv 2) (fun _ _ => rfl)) (pe_c ih hr (Nat.le_refl _) rfl (pa_cons (pv 0) (pa_cons (pv 3) pa_nil))) (fun _ _ => rfl)))))
      (pss_one (ps_ret (pv 2)))), ?_⟩
    refine ⟨_, rfl, _, rfl, a, _, _, _, rfl, rfl, SqT.of ea, at0, _, _, rfl, m, d.name, SS, ix, M, ms, names, rfl, rfl, ma, fun n0 hn0 => ?_⟩
    refine ⟨_, rfl, a, _, _, _, rfl, rfl, SqT.of ea, at1, t, rfl, ⟨_, SqT.of et⟩, for_tup (xs := vs) (fun i σ H' => H' = H ∧ ∃ (n : Nat) (u : Option V), σ = [some (.ref m), some (.ref a), some (.int n), u] ∧ ∃ τ, SS[n]? = some τ ∧ SemR R d.name ((d.kids.take i).map (fo R)) τ) ?_ ?_ ?_ ?_⟩
    · exact ⟨rfl, n0, none, rfl, _, hn0, start_sem (SS := SS) nb ma.nms⟩
    · rintro i σ H' hi ⟨rfl, _⟩
      exact SqT.of et
    · rintro i x σ H' hx ⟨rfl, n, u, rfl, hsem⟩
      have hi : i < d.kids.length := by
        have := (List.getElem?_eq_some_iff.mp hx).1
        omega
      obtain ⟨v, f1, f2⟩ := hkg i _ (List.getElem?_eq_getElem hi)
      rw [f1] at hx
      cases hx
      have hcd := deps_mem (List.getElem_mem hi)
      have hn : n < SS.length := by
        obtain ⟨τ, e, _⟩ := hsem
        exact (List.getElem?_eq_some_iff.mp e).1
      obtain ⟨a3, vs3, rts, ra, row, g1, g2, g3, g4, g5, g6⟩ := mat_get ma hn
      refine ⟨_, rfl, m, _, _, _, rfl, rfl, SqT.of g1, atI_nat (j := 3) g2, _, rfl, a3, _, _, _, rfl, rfl, SqT.of g3, atI_nat g4, _, rfl, _, rfl, _, _, rfl, m, (d.kids)[i], SS, ix, M, ms, names, rfl, ma, f2, by omega, fun n2 ht2 => ?_⟩
      have hn2 : n2 < SS.length := by
        obtain ⟨τ, e, _⟩ := ht2
        exact (List.getElem?_eq_some_iff.mp e).1
      obtain ⟨n3, k1, k2⟩ := g6 n2 hn2
      refine ⟨ra, _, _, _, rfl, rfl, SqT.of g5, atI_nat k1, ?_⟩
      have := step_tells ok ma.good hsem ht2 k2
      rw [← List.map_singleton (f := fo R), ← List.map_append, ← take_snoc (List.getElem?_eq_getElem hi)] at this
      exact ⟨rfl, n3, _, rfl, this⟩
    · rintro σ H' ⟨rfl, n, u, rfl, τ, h1, h2⟩
      rw [hkl, List.take_length] at h2
      exact ⟨_, rfl, q n ⟨τ, h1, h2⟩⟩
theorem ok_state (T : Tx K mg N) (ok : RulesOk R) (nb : NoBlank R) : ∀ k : Nat, Cal P w K mg base (k + 1) "state_of" (spState R k) []
  | 0 => by
    obtain ⟨f, fd, F, m⟩ := T.d_state_of.ex
    have no : ∀ vs H Q E, ¬ spState R 0 vs H Q E := fun vs H Q E ⟨_, _, _, _, d, _, _, _, _, _, _, _, _, h, _⟩ => by
      have := dep_pos d
      omega
    exact ⟨f, fd, ["machine", "doc"], [], ⟨fun vs H Q E h => absurd h (no vs H Q E), fun A outer s H args us vs Q E _ _ _ _ h => absurd h (no vs H Q E)⟩, m, F.kp, F.bindsN (fun _ _ _ _ _ _ us hl => match us, hl with | [_, _], _ => rfl), .nil⟩
  | k + 1 => T.d_state_of.cal scState (fun _ _ _ _ _ _ us hl => match us, hl with | [_, _], _ => rfl) len2 (body_state T ok nb k (ok_state T ok nb k))
theorem ok_state_any (T : Tx K mg N) (k : Nat) : Cal P w K mg base (k + 2) "state_of" (fun vs H Q E => ∃ R, RulesOk R ∧ NoBlank R ∧ spState R (k + 1) vs H Q E) [] :=
  T.d_state_of.cal scState (fun _ _ _ _ _ _ us hl => match us, hl with | [_, _], _ => rfl) (fun vs H Q E ⟨_, _, _, h⟩ => len2 vs H Q E h) (fun f cdv A outer s H vs Q E hr ⟨_, ok, nb, h⟩ => body_state T ok nb k (ok_state T ok nb k) f cdv A outer s H vs Q E hr h)
end
end KG
end
section
set_option Elab.async false
set_option linter.all false
set_option autoImplicit false
set_option maxRecDepth 100000
set_option maxHeartbeats 4000000
/-! ## mark_below, marked -/
namespace KG
open PySem PySem.Spec PyProof.Rows L2 KM
open C8 (Cal Met Mak pe_c pe_mk pe_mt pe_mt0)
mutual
def ents : Doc → List Nat → List (List Nat × Doc)
  | .mk n ks, pl => (pl, .mk n ks) :: entss ks pl 0
def entss : List Doc → List Nat → Nat → List (List Nat × Doc)
  | [], _, _ => []
  | d :: ds, pl, k => ents d (pl ++ [k]) ++ entss ds pl (k + 1)
end
theorem entss_snoc (d : Doc) (pl : List Nat) : ∀ (ds : List Doc) (k : Nat), entss (ds ++ [d]) pl k = entss ds pl k ++ ents d (pl ++ [k + ds.length])
  | [], k => by rw [List.nil_append, entss, entss, entss, List.append_nil]; rfl
  | e :: ds, k => by
    rw [List.cons_append, entss, entss, entss_snoc d pl ds (k + 1), List.append_assoc, List.length_cons]
    rw [show k + 1 + ds.length = k + (ds.length + 1) from by omega]
mutual
theorem ents_len : ∀ (d : Doc) (pl : List Nat), (ents d pl).length = siz d
  | .mk n ks, pl => by rw [ents, siz, List.length_cons, entss_len ks pl 0]
theorem entss_len : ∀ (ds : List Doc) (pl : List Nat) (k : Nat), (entss ds pl k).length = sizs ds
  | [], _, _ => by rw [entss, sizs]; rfl
  | d :: ds, pl, k => by rw [entss, sizs, List.length_append, ents_len d, entss_len ds]
end
theorem sizs_append (xs ys : List Doc) : sizs (xs ++ ys) = sizs xs + sizs ys := by
  induction xs with
  | nil => rw [sizs]; simp
  | cons x xs ih => rw [List.cons_append, sizs, sizs, ih]; omega
def EntAt (R : List Rl) (H : Hp) (t : Addr) (e : List Nat × Doc) (v : V) : Prop := ∃ a b l, v = .ref a ∧ H a = some (.tup [.ref b, .ref l]) ∧ H b = some (.tup (e.1.map fun (n : Nat) => V.int (n : Int))) ∧ H l = some (.lst ((fo R e.2).map V.str)) ∧ l ≠ t
def EntsAt (R : List Rl) (H : Hp) (t : Addr) (es : List (List Nat × Doc)) (vs : List V) : Prop := vs.length = es.length ∧ ∀ (i : Nat) (e : List Nat × Doc) (v : V), es[i]? = some e → vs[i]? = some v → EntAt R H t e v
theorem EntAt.but {R : List Rl} {H H' : Hp} {t : Addr} {e : List Nat × Doc} {v : V} {xs : List V} (h : EntAt R H t e v) (ht : H t = some (.lst xs)) (b : But t H H') : EntAt R H' t e v := by
  obtain ⟨a, c, l, e1, e2, e3, e4, e5⟩ := h
  exact ⟨a, c, l, e1, b _ _ (ne_of e2 ht (fun z => nomatch z)) e2, b _ _ (ne_of e3 ht (fun z => nomatch z)) e3, b _ _ e5 e4, e5⟩
theorem EntsAt.but {R : List Rl} {H H' : Hp} {t : Addr} {es : List (List Nat × Doc)} {vs xs : List V} (h : EntsAt R H t es vs) (ht : H t = some (.lst xs)) (b : But t H H') : EntsAt R H' t es vs := ⟨h.1, fun i e v h1 h2 => (h.2 i e v h1 h2).but ht b⟩
theorem EntsAt.app {R : List Rl} {H : Hp} {t : Addr} {es fs : List (List Nat × Doc)} {vs ws : List V} (h : EntsAt R H t es vs) (k : EntsAt R H t fs ws) : EntsAt R H t (es ++ fs) (vs ++ ws) := by
  refine ⟨by rw [List.length_append, List.length_append, h.1, k.1], fun i e v h1 h2 => ?_⟩
  by_cases hi : i < es.length
  · rw [List.getElem?_append_left hi] at h1
    rw [List.getElem?_append_left (by rw [h.1]; exact hi)] at h2
    exact h.2 i e v h1 h2
  · rw [List.getElem?_append_right (by omega)] at h1
    rw [List.getElem?_append_right (by rw [h.1]; omega), h.1] at h2
    exact k.2 _ e v h1 h2
theorem ixNat {n k : Nat} (h : k < n) : ixN n (k : Int) = some k := by
  unfold ixN
  rw [if_pos (by omega), if_pos (by omega), Int.toNat_natCast]
section
variable {P : Program} {w : World} {K : PySem.W.Frag} {mg : Str → Option Value} {base : Heap} {N : Nm} {R : List Rl}
def spMarkB (R : List Rl) (k : Nat) : Sp := sp4 fun v u z y H Q => ∃ (m : Addr) (d : Doc) (SS : List AS) (ix : List Nat) (M : List (List Nat)) (ms : List Nat) (names : List Str) (b : Addr) (pl : List Nat) (t : Addr) (xs : List V), v = .ref m ∧ z = .ref b ∧ y = .ref t ∧ MachAt R H m SS ix M ms names ∧ DAt H (docD d) u ∧ dep d ≤ k ∧
  H b = some (.tup (pl.map fun (n : Nat) => V.int (n : Int))) ∧ H t = some (.lst xs) ∧ pl.length + k ≤ 1000 ∧ xs.length + siz d ≤ 100000 ∧
  ∀ (n : Nat) H' ys, But t H H' → H' t = some (.lst (xs ++ ys)) → EntsAt R H' t (ents d pl) ys → Tells R SS d n → Q (.int n) H'
theorem scMarkB : FnScope ["machine", "doc", "place", "found", "at", "state", "k"] ["machine", "doc", "place", "found"] (defScope sMarkBelow) := ⟨rfl, rfl, rfl, by decide +kernel, rfl, by decide +kernel, by decide +kernel⟩
theorem ok_markB (T : Tx K mg N) (ok : RulesOk R) (nb : NoBlank R) : ∀ k : Nat, Cal P w K mg base (k + 1) "mark_below" (spMarkB R k) []
  | 0 => by
    obtain ⟨f, fd, F, m⟩ := T.d_mark_below.ex
    have no : ∀ vs H Q E, ¬ spMarkB R 0 vs H Q E := fun vs H Q E ⟨_, _, _, _, _, _, d, _, _, _, _, _, _, _, _, _, _, _, _, _, _, h, _⟩ => by
      have := dep_pos d
      omega
    exact ⟨f, fd, ["machine", "doc", "place", "found"], [], ⟨fun vs H Q E h => absurd h (no vs H Q E), fun A outer s H args us vs Q E _ _ _ _ h => absurd h (no vs H Q E)⟩, m, F.kp, F.bindsN (fun _ _ _ _ _ _ us hl => match us, hl with | [_, _, _, _], _ => rfl), .nil⟩
  | k + 1 => by
    have ih := ok_markB T ok nb k
    refine T.d_mark_below.cal scMarkB (fun _ _ _ _ _ _ us hl => match us, hl with | [_, _, _, _], _ => rfl) len4 (fun f cdv A outer s H vs Q E hr h => ?_)
    obtain ⟨_, u, _, _, rfl, m, d, SS, ix, M, ms, names, b, pl, t, xs, rfl, rfl, rfl, ma, hd, hdep, hb, ht, hpl, hxs, q⟩ := h
    obtain ⟨a, tk, vs, rfl, ea, et, hk⟩ := doc_at hd
    obtain ⟨hkl, hkg⟩ := docDs_get hk
    have hdk : deps d.kids ≤ k ∧ siz d = sizs d.kids + 1 ∧ ents d pl = (pl, d) :: entss d.kids pl 0 := by
      cases d with
      | mk n ks => rw [dep] at hdep; exact ⟨by show deps ks ≤ k; omega, by rw [siz]; rfl, by rw [ents]; rfl⟩
    obtain ⟨hdk, hsz, hent⟩ := hdk
    refine ⟨_, pss_cons (ps_set (i := 4) scMarkB.nd rfl (Or.inl rfl) (pe_callB call_len_seq (by rfl) T.z_len PySem.boot_len (pa_cons (pv 3) pa_nil)))
      (pss_cons (ps_expr (pe_bm PySem.F.plainAttrs_list PySem.F.slot_list_append PySem.F.type_list_append mt_append (pv 3) (pa_cons (pe_tup (pa_cons (pv 2) (pa_cons (pe_lst pa_nil) pa_nil))) pa_nil)))
      (pss_cons (ps_set (i := 5) scMarkB.nd rfl (Or.inl rfl) (pe_c (ok_start_of (R := R) T) hr (by omega) rfl (pa_cons (pv 0) (pa_cons (pe_ix ix_tup (pv 1) pe_int (fun _ _ => rfl)) pa_nil))))
      (pss_cons (ps_for PassesOwn.never rfl (pi_range1 (by rfl) T.z_range (pa_cons (pe_callB call_len_seq (by rfl) T.z_len PySem.boot_len (pa_cons (pe_ix ix_tup (pv 1) pe_int (fun _ _ => rfl)) pa_nil)) pa_nil)) (pg_name (i := 6) scMarkB.nd rfl (Or.inl rfl))
        (pss_one (ps_set (i := 5) scMarkB.nd rfl (Or.inl rfl) (pe_ix ix_tup (pe_ix ix_tup (pe_ix ix_tup (pv 0) pe_int (fun _ _ => rfl)) (pv 5) (fun _ _ => rfl)) (pe_c ih hr (Nat.le_refl _) rfl (pa_cons (pv 0) (pa_cons (pe_ix ix_tup (pe_ix ix_tup (pv 1) pe_int (fun _ _ => rfl)) (pv 6) (fun _ _ => rfl)) (pa_cons (pe_op op_catA (pv 2) (pe_tup (pa_cons (pv 6) pa_nil))) (pa_cons (pv 3) pa_nil))))) (fun _ _ => rfl)))))
      (pss_cons (ps_asg (pe_tup (pa_cons (pv 2) (pa_cons (pe_c (ok_forms_of (R := R) T) hr (by omega) rfl (pa_cons (pv 0) (pa_cons (pv 5) pa_nil))) pa_nil))) (pg_sub (pv 3) (pv 4) set_list))
      (pss_one (ps_ret (pv 5))))))), ?_⟩
    refine ⟨_, rfl, t, _, rfl, .inl (SqL.of ht), ?_⟩
    refine ⟨_, rfl, .inl ⟨rfl, _, SqL.of ht⟩, _, rfl, (by show 0 ≤ sizeLine; decide), fun l0 hl0 => ⟨(by show 2 ≤ sizeLine; decide), fun p0 hp0 => ?_⟩⟩
    have s0 : Same H (upd (upd H l0 (.lst [])) p0 (.tup [.ref b, .ref l0])) := (same_new hl0 _).trans (same_new hp0 _)
    generalize upd (upd H l0 (.lst [])) p0 (.tup [.ref b, .ref l0]) = H1 at *
    refine ⟨t, xs, _, rfl, rfl, s0 _ _ ht, by rw [sizeLine_eq]; omega, ?_⟩
    have b2 : But t H (upd H1 t (.lst (xs ++ [.ref p0]))) := (but_same s0).trans but_upd
    have et2 : upd H1 t (.lst (xs ++ [.ref p0])) t = some (.lst (xs ++ [.ref p0])) := upd_same
    generalize upd H1 t (.lst (xs ++ [.ref p0])) = H2 at *
    have z2 : Fz H H2 := b2.fz ht (fun z => z)
    have ma2 := ma.fz z2
    refine ⟨_, rfl, _, rfl, a, _, _, _, rfl, rfl, SqT.of (z2 _ _ True.intro ea), at0, _, _, rfl, m, d.name, SS, ix, M, ms, names, rfl, rfl, ma2, fun n0 hn0 => ?_⟩
    refine ⟨_, rfl, a, _, _, _, rfl, rfl, SqT.of (z2 _ _ True.intro ea), at1, tk, vs, rfl, .inr (SqT.of (z2 _ _ True.intro et)), (vs.length : Int), rfl, by have := sizs_len d.kids; omega, by have := sizs_len d.kids; omega, ?_⟩
    refine for_range (n := (vs.length : Int).toNat) (fun i σ H' => But t H H' ∧ ∃ (n : Nat) (u : Option V) (ys : List V), σ = [some (.ref m), some (.ref a), some (.ref b), some (.ref t), some (.int (xs.length : Nat)), some (.int n), u] ∧ H' t = some (.lst (xs ++ .ref p0 :: ys)) ∧ EntsAt R H' t (entss (d.kids.take i) pl 0) ys ∧ ∃ τ, SS[n]? = some τ ∧ SemR R d.name ((d.kids.take i).map (fo R)) τ) ?_ ?_ ?_
    · exact ⟨b2, n0, none, [], rfl, et2, ⟨by rw [List.take_zero, entss]; rfl, fun i e v h1 h2 => by simp at h2⟩, _, hn0, start_sem (SS := SS) nb ma.nms⟩
    · rintro i σ H' hi ⟨bt, n, u, ys, rfl, htt, hes, hsem⟩
      rw [Int.toNat_natCast] at hi
      rw [Int.zero_add]
      have hik : i < d.kids.length := by omega
      obtain ⟨v, f1, f2⟩ := hkg i _ (List.getElem?_eq_getElem hik)
      have z' : Fz H H' := bt.fz ht (fun z => z)
      have ma' := ma.fz z'
      have hcd := deps_mem (List.getElem_mem hik)
      have hn : n < SS.length := by
        obtain ⟨τ, e, _⟩ := hsem
        exact (List.getElem?_eq_some_iff.mp e).1
      obtain ⟨a3, vs3, rts, ra, row, g1, g2, g3, g4, g5, g6⟩ := mat_get ma' hn
      have hszi : sizs (d.kids.take i) + siz (d.kids)[i] ≤ sizs d.kids := by
        have e := congrArg sizs (List.take_append_drop i d.kids)
        rw [sizs_append, List.drop_eq_getElem_cons hik, sizs] at e
        omega
      have hysl : ys.length = sizs (d.kids.take i) := by rw [hes.1, entss_len]
      refine ⟨_, rfl, m, _, _, _, rfl, rfl, SqT.of g1, atI_nat (j := 3) g2, _, rfl, a3, _, _, _, rfl, rfl, SqT.of g3, atI_nat g4, ?_⟩
      refine ⟨_, rfl, _, rfl, a, _, _, _, rfl, rfl, SqT.of (z' _ _ True.intro ea), at1, _, rfl, tk, _, _, _, rfl, rfl, SqT.of (z' _ _ True.intro et), atI_nat f1, ?_⟩
      refine ⟨_, rfl, _, rfl, (by show 1 ≤ sizeLine; decide), fun pk hpk => ?_⟩
      have sk : Same H' (upd H' pk (.tup [.int (i : Nat)])) := same_new hpk _
      have epk : upd H' pk (.tup [.int (i : Nat)]) pk = some (.tup [.int (i : Nat)]) := upd_same
      generalize upd H' pk (.tup [.int (i : Nat)]) = H3 at *
      have rest : ∀ (bp : Addr) (H4 : Hp), Same H3 H4 → H4 bp = some (.tup ((pl ++ [i]).map fun (n : Nat) => V.int (n : Int))) →
          ∀ (Q' : VK), (∀ y H5, (∃ (n2 : Nat) (ys2 : List V), y = .int n2 ∧ But t H H5 ∧ H5 t = some (.lst ((xs ++ .ref p0 :: ys) ++ ys2)) ∧ EntsAt R H5 t (entss (d.kids.take (i + 1)) pl 0) (ys ++ ys2) ∧ Tells R SS (d.kids)[i] n2 ∧ Fz H' H5) → Q' y H5) → spMarkB R k [.ref m, v, .ref bp, .ref t] H4 Q' C8.E0 := fun bp H4 s4 ebp Q' kq => by
        have s34 := sk.trans s4
        refine ⟨_, _, _, _, rfl, m, (d.kids)[i], SS, ix, M, ms, names, bp, pl ++ [i], t, _, rfl, rfl, rfl, ma'.fz (fz_same s34), f2.fz (z'.trans (fz_same s34)), by omega, ebp, s34 _ _ htt, by rw [List.length_append]; simp; omega, by rw [List.length_append, List.length_cons]; omega, fun n2 H5 ys2 b5 e5 en5 t5 => ?_⟩
        refine kq _ _ ⟨n2, ys2, rfl, bt.trans ((but_same s34).trans b5), e5, ?_, t5, (fz_same s34).trans (b5.fz (s34 _ _ htt) (fun z => z))⟩
        rw [take_snoc (List.getElem?_eq_getElem hik), entss_snoc, List.length_take, Nat.min_eq_left (by omega), Nat.zero_add]
        exact ((hes.but htt (but_same s34)).but (s34 _ _ htt) b5).app en5
      refine ⟨b, pk, _, _, rfl, rfl, SqT.of ((z'.trans (fz_same sk)) _ _ True.intro hb), SqT.of epk, by rw [List.length_map, sizeLine_eq]; simp; omega, fun h0 => ?_, fun _ h => (by simp at h), fun h0 _ bp hbp => ?_⟩
      · have hpl0 : pl = [] := List.map_eq_nil_iff.mp h0
        refine ⟨_, rfl, rest pk H3 (Same.refl _) (by rw [epk, hpl0]; rfl) _ (fun y H5 ⟨n2, ys2, ey, bt5, e5, en5, t5, z5⟩ => ?_)⟩
        have hn2 : n2 < SS.length := by
          obtain ⟨τ, e, _⟩ := t5
          exact (List.getElem?_eq_some_iff.mp e).1
        obtain ⟨n3, k1, k2⟩ := g6 n2 hn2
        refine ⟨ra, _, n2, _, rfl, ey, SqT.of (z5 _ _ True.intro g5), atI_nat k1, ?_⟩
        have := step_tells ok ma.good hsem t5 k2
        rw [← List.map_singleton (f := fo R), ← List.map_append, ← take_snoc (List.getElem?_eq_getElem hik)] at this
        exact ⟨bt5, n3, some (.int (i : Nat)), ys ++ ys2, rfl, by rw [e5, List.append_assoc]; rfl, en5, this⟩
      · have sb : Same H3 (upd H3 bp (.tup (pl.map (fun (n : Nat) => V.int (n : Int)) ++ [.int (i : Nat)]))) := same_new hbp _
        refine ⟨_, rfl, rest bp _ sb (by rw [upd_same, List.map_append]; rfl) _ (fun y H5 ⟨n2, ys2, ey, bt5, e5, en5, t5, z5⟩ => ?_)⟩
        have hn2 : n2 < SS.length := by
          obtain ⟨τ, e, _⟩ := t5
          exact (List.getElem?_eq_some_iff.mp e).1
        obtain ⟨n3, k1, k2⟩ := g6 n2 hn2
        refine ⟨ra, _, n2, _, rfl, ey, SqT.of (z5 _ _ True.intro g5), atI_nat k1, ?_⟩
        have := step_tells ok ma.good hsem t5 k2
        rw [← List.map_singleton (f := fo R), ← List.map_append, ← take_snoc (List.getElem?_eq_getElem hik)] at this
        exact ⟨bt5, n3, some (.int (i : Nat)), ys ++ ys2, rfl, by rw [e5, List.append_assoc]; rfl, en5, this⟩
    · rintro σ H' ⟨bt, n, u, ys, rfl, htt, hes, τ, h1, h2⟩
      rw [Int.toNat_natCast, hkl, List.take_length] at hes h2
      have z' : Fz H H' := bt.fz ht (fun z => z)
      have ma' := ma.fz z'
      have e7 := sem_forms ok (ma.good τ (List.mem_of_getElem? h1)) h2
      rw [← fo_eq] at e7
      refine ⟨_, rfl, _, rfl, _, rfl, _, _, rfl, m, n, τ, SS, ix, M, ms, names, rfl, rfl, ma', h1, ok.1, fun lf H3 s3 hlf0 hlf => ?_⟩
      refine ⟨(by show 2 ≤ sizeLine; decide), fun pf hpf => ?_⟩
      have s4 : Same H3 (upd H3 pf (.tup [.ref b, .ref lf])) := same_new hpf _
      have epf : upd H3 pf (.tup [.ref b, .ref lf]) pf = some (.tup [.ref b, .ref lf]) := upd_same
      generalize upd H3 pf (.tup [.ref b, .ref lf]) = H4 at *
      have s34 := s3.trans s4
      have htt4 := s34 _ _ htt
      refine ⟨_, rfl, _, rfl, t, _, _, xs.length, rfl, rfl, htt4, ixNat (by rw [List.length_append, List.length_cons]; omega), ?_⟩
      rw [List.set_append_right _ _ (Nat.le_refl _), Nat.sub_self, List.set_cons_zero]
      have nlf : lf ≠ t := fun z => by rw [z, htt] at hlf0; cases hlf0
      have npf : pf ≠ t := ne_of epf htt4 (fun z => nomatch z)
      have nb2 : b ≠ t := ne_of hb ht (fun z => nomatch z)
      have b5 : But t H' (upd H4 t (.lst (xs ++ .ref pf :: ys))) := (but_same s34).trans but_upd
      refine ⟨_, rfl, q n _ (.ref pf :: ys) (bt.trans b5) upd_same ?_ ⟨τ, h1, h2⟩⟩
      have tail := hes.but htt b5
      rw [hent]
      refine ⟨by rw [List.length_cons, List.length_cons, tail.1], fun i e v e1 e2 => ?_⟩
      cases i with
      | zero =>
        cases e1
        cases e2
        refine ⟨pf, b, lf, rfl, by rw [upd_ne npf]; exact epf, by rw [upd_ne nb2]; exact s34 _ _ (z' _ _ True.intro hb), ?_, nlf⟩
        rw [upd_ne nlf, s4 _ _ hlf, e7]
      | succ i => exact tail.2 i e v e1 e2
def spMarked (R : List Rl) (k : Nat) : Sp := sp2 fun v u H Q => ∃ (m : Addr) (d : Doc) (SS : List AS) (ix : List Nat) (M : List (List Nat)) (ms : List Nat) (names : List Str), v = .ref m ∧ MachAt R H m SS ix M ms names ∧ DAt H (docD d) u ∧ dep d ≤ k ∧ siz d ≤ 10000 ∧ k ≤ 900 ∧
  ∀ t H' ys, Same H H' → H' t = some (.lst ys) → EntsAt R H' t (ents d []) ys → Q (.ref t) H'
theorem scMarked : FnScope ["machine", "doc", "found"] ["machine", "doc"] (defScope sMarked) := ⟨rfl, rfl, rfl, by decide +kernel, rfl, by decide +kernel, by decide +kernel⟩
theorem body_marked (T : Tx K mg N) (ok : RulesOk R) (nb : NoBlank R) (k : Nat) : Body0 P w K mg base ["machine", "doc", "found"] "marked" sMarked (k + 1) (spMarked R k) := by
  intro f cdv A outer s H vs Q E hr h
  obtain ⟨_, u, rfl, m, d, SS, ix, M, ms, names, rfl, ma, hd, hdep, hsz, hk, q⟩ := h
  refine ⟨_, pss_cons (ps_set (i := 2) scMarked.nd rfl (Or.inl rfl) (pe_lst pa_nil))
    (pss_cons (ps_expr (pe_c (ok_markB T ok nb k) hr (Nat.le_refl _) rfl (pa_cons (pv 0) (pa_cons (pv 1) (pa_cons (pe_tup pa_nil) (pa_cons (pv 2) pa_nil))))))
    (pss_one (ps_ret (pv 2)))), ?_⟩
  refine ⟨(by show 0 ≤ sizeLine; decide), fun t ht0 => ?_⟩
  have s1 : Same H (upd H t (.lst [])) := same_new ht0 _
  refine ⟨_, rfl, _, rfl, (by show 0 ≤ sizeLine; decide), fun b hb0 => ?_⟩
  have s2 : Same (upd H t (.lst [])) (upd (upd H t (.lst [])) b (.tup [])) := same_new hb0 _
  have s12 := s1.trans s2
  refine ⟨_, rfl, _, _, _, _, rfl, m, d, SS, ix, M, ms, names, b, [], t, [], rfl, rfl, rfl, ma.fz (fz_same s12), hd.fz (fz_same s12), hdep, upd_same, s2 _ _ upd_same, by simp; omega, by simp; omega, fun n H' ys bt e en tl => ?_⟩
  rw [List.nil_append] at e
  exact ⟨_, rfl, q t H' ys (fun x o ex => bt x o (ne_of_none ex ht0) (s12 x o ex)) e en⟩
theorem ok_marked_any (T : Tx K mg N) (k : Nat) : Cal P w K mg base (k + 2) "marked" (fun vs H Q E => ∃ R, RulesOk R ∧ NoBlank R ∧ spMarked R k vs H Q E) [] :=
  T.d_marked.cal scMarked (fun _ _ _ _ _ _ us hl => match us, hl with | [_, _], _ => rfl) (fun vs H Q E ⟨_, _, _, h⟩ => len2 vs H Q E h) (fun f cdv A outer s H vs Q E hr ⟨_, ok, nb, h⟩ => body_marked T ok nb k f cdv A outer s H vs Q E hr h)
end
end KG
end
section
set_option Elab.async false
set_option linter.all false
set_option autoImplicit false
set_option maxRecDepth 100000
set_option maxHeartbeats 4000000
/-! ## The law's defs: numbers drawn; data compared -/
namespace KG
open PySem PySem.Spec PyProof.Rows L2 KM
open C8 (Cal Met Mak pe_c pe_mk pe_mt pe_mt0)
theorem sql_same {K : PySem.W.Frag} {H H' : Hp} {a : Addr} {xs : List V} (s : Same H H') (h : SqL K H a xs) : SqL K H' a xs := by
  rcases h with (h | ⟨o, h⟩) | h
  · exact .inl (.inl (s _ _ h))
  · exact .inl (.inr ⟨o, s _ _ h⟩)
  · exact .inr h
/-- a tape: a list of numbers -/
def TapeAt (H : Hp) (t : Addr) : Prop := ∃ ns : List Int, H t = some (.lst (ns.map V.int))
theorem TapeAt.same {H H' : Hp} {t : Addr} (h : TapeAt H t) (s : Same H H') : TapeAt H' t := by
  obtain ⟨ns, e⟩ := h
  exact ⟨ns, s _ _ e⟩
theorem But.fzT {H H' : Hp} {t : Addr} (b : But t H H') (h : TapeAt H t) : Fz H H' := by
  obtain ⟨ns, e⟩ := h
  exact b.fz e (fun z => z)
section
variable {P : Program} {w : World} {K : PySem.W.Frag} {mg : Str → Option Value} {base : Heap} {N : Nm}
def spCell (K : PySem.W.Frag) : Sp := sp2 fun v u H Q => ∃ (a : Addr) (ns : List Int) (k : Nat), v = .ref a ∧ u = .int k ∧ SqL K H a (ns.map V.int) ∧ ∀ z : Int, Q (.int z) H
theorem scCell : FnScope ["_law_script", "_law_k"] ["_law_script", "_law_k"] (defScope sLawCellAt) := ⟨rfl, rfl, rfl, by decide +kernel, rfl, by decide +kernel, by decide +kernel⟩
theorem ok_cell (T : Tx K mg N) : Cal P w K mg base 1 "_law_cell_at" (spCell K) [] := by
  refine T.d_law_cell_at.cal scCell (fun _ _ _ _ _ _ us hl => match us, hl with | [_, _], _ => rfl) len2 (fun f cdv A outer s H vs Q E hr h => ?_)
  obtain ⟨_, _, rfl, a, ns, k, rfl, rfl, hs, q⟩ := h
  refine ⟨_, pss_cons (ps_if (pt_cmpR op_lt (pv 1) (pe_callB call_len_seq (by rfl) T.z_len PySem.boot_len (pa_cons (pv 0) pa_nil)) (nomark _)) (pss_one (ps_ret (pe_ix ix_list (pv 0) (pv 1) (fun _ _ => rfl)))) pss_nil)
    (pss_one (ps_ret pe_int)), ?_⟩
  refine ⟨_, rfl, _, rfl, a, _, rfl, .inl hs, _, _, rfl, rfl, _, rfl, ?_⟩
  rw [List.length_map]
  by_cases h : k < ns.length
  · rw [decide_eq_true (by omega)]
    refine iteT ?_
    exact ⟨_, rfl, _, rfl, a, _, _, _, rfl, rfl, hs, atI_nat (j := k) (v := .int ns[k]) (by rw [List.getElem?_map, List.getElem?_eq_getElem h]; rfl), q _⟩
  · rw [decide_eq_false (by omega)]
    exact iteF (q 0)
def spMix : Sp := sp2 fun v u H Q => ∃ (i : Int) (k : Nat), v = .int i ∧ u = .int k ∧ k < 1000 ∧ ∀ z : Int, Q (.int z) H
theorem scMix : FnScope ["_law_number", "_law_k", "_law_blend"] ["_law_number", "_law_k"] (defScope sLawMix) := ⟨rfl, rfl, rfl, by decide +kernel, rfl, by decide +kernel, by decide +kernel⟩
theorem ok_mix (T : Tx K mg N) : Cal P w K mg base 1 "_law_mix" spMix [] := by
  refine T.d_law_mix.cal scMix (fun _ _ _ _ _ _ us hl => match us, hl with | [_, _], _ => rfl) len2 (fun f cdv A outer s H vs Q E hr h => ?_)
  obtain ⟨_, _, rfl, i, k, rfl, rfl, hk, q⟩ := h
  refine ⟨_, pss_cons (ps_set (i := 2) scMix.nd rfl (Or.inl rfl) (pe_op op_mod (pe_op op_mul (pe_op op_add (pe_op op_add (pv 0) pe_int) (pe_op op_mul (pv 1) (pv 1))) pe_int) pe_int))
    (pss_one (ps_ret (pe_op op_mod (pe_op op_mul (pv 2) (pe_op op_add (pe_op op_add (pe_op op_fdiv (pv 2) pe_int) (pe_op op_mul pe_int (pv 1))) pe_int)) pe_int))), ?_⟩
  refine ⟨_, rfl, _, _, rfl, rfl, _, rfl, _, rfl, _, _, rfl, rfl, .inl ⟨by omega, by omega⟩, _, _, rfl, rfl, _, _, rfl, rfl, .inr ⟨by decide, by decide⟩, _, _, rfl, rfl, (by show (0 : Int) < 2147483629; decide), ?_⟩
  have h0 := Int.emod_nonneg ((i + 1 + (k : Int) * k) * 48271) (show (2147483629 : Int) ≠ 0 by decide)
  have h1 := Int.emod_lt_of_pos ((i + 1 + (k : Int) * k) * 48271) (show (0 : Int) < 2147483629 by decide)
  generalize (i + 1 + (k : Int) * k) * 48271 % 2147483629 = b at *
  exact ⟨_, rfl, _, rfl, _, _, rfl, rfl, ⟨by decide, by decide⟩, _, rfl, _, _, rfl, rfl, .inl ⟨by decide, by decide⟩, _, _, rfl, rfl, _, _, rfl, rfl, _, _, rfl, rfl, .inl ⟨by omega, by omega⟩, _, _, rfl, rfl, (by show (0 : Int) < 2147483587; decide), q _⟩
def spTape : Sp := sp2 fun v u H Q => ∃ (i : Int), v = .int i ∧ u = .int 60 ∧ ∀ t H', Same H H' → H t = none → TapeAt H' t → Q (.ref t) H'
theorem scTape : FnScope ["_law_cell", "_law_many", "_law_found", "_law_rest", "_law_k"] ["_law_cell", "_law_many"] (defScope sLawTape) := ⟨rfl, rfl, rfl, by decide +kernel, rfl, by decide +kernel, by decide +kernel⟩
theorem ok_tape (T : Tx K mg N) : Cal P w K mg base 2 "_law_tape" spTape [] := by
  refine T.d_law_tape.cal scTape (fun _ _ _ _ _ _ us hl => match us, hl with | [_, _], _ => rfl) len2 (fun f cdv A outer s H vs Q E hr h => ?_)
  obtain ⟨_, _, rfl, i, rfl, rfl, q⟩ := h
  refine ⟨_, pss_cons (ps_set (i := 2) scTape.nd rfl (Or.inl rfl) (pe_lst pa_nil)) (pss_cons (ps_set (i := 3) scTape.nd rfl (Or.inl rfl) (pv 0))
    (pss_cons (ps_for PassesOwn.never rfl (pi_range1 (by rfl) T.z_range (pa_cons (pv 1) pa_nil)) (pg_name (i := 4) scTape.nd rfl (Or.inl rfl))
      (pss_one (ps_if (pt_cmpR op_ge (pv 3) (pe_op op_pow pe_int pe_int) (nomark _))
        (pss_cons (ps_expr (pe_bm PySem.F.plainAttrs_list PySem.F.slot_list_append PySem.F.type_list_append mt_append (pv 2) (pa_cons (pe_op op_mod (pv 3) pe_int) pa_nil)))
          (pss_one (ps_set (i := 3) scTape.nd rfl (Or.inl rfl) (pe_op op_fdiv (pv 3) pe_int))))
        (pss_one (ps_expr (pe_bm PySem.F.plainAttrs_list PySem.F.slot_list_append PySem.F.type_list_append mt_append (pv 2) (pa_cons (pe_c (ok_mix T) hr (Nat.le_refl _) rfl (pa_cons (pv 0) (pa_cons (pv 4) pa_nil))) pa_nil)))))))
      (pss_one (ps_ret (pe_revL (pv 2)))))), ?_⟩
  refine ⟨(by show 0 ≤ sizeLine; decide), fun g hg0 => ?_⟩
  refine ⟨_, rfl, _, rfl, 60, rfl, by decide, by decide, for_range (n := (60 : Int).toNat) (fun j σ H' => Same H H' ∧ ∃ (ns : List Int) (r : Int) (u : Option V), σ = [some (.int i), some (.int 60), some (.ref g), some (.int r), u] ∧ H' g = some (.lst (ns.map V.int)) ∧ ns.length ≤ j) ?_ ?_ ?_⟩
  · exact ⟨same_new hg0 _, [], i, none, rfl, upd_same, Nat.le_refl _⟩
  · rintro j σ H' hj ⟨s', ns, r, u, rfl, hg, hl⟩
    have hj60 : j < 60 := hj
    rw [Int.zero_add]
    have add : ∀ z : Int, Same H (upd H' g (.lst (ns.map V.int ++ [.int z]))) ∧ (upd H' g (.lst (ns.map V.int ++ [.int z]))) g = some (.lst ((ns ++ [z]).map V.int)) ∧ (ns ++ [z]).length ≤ j + 1 := fun z => ⟨fun b o e => by rw [upd_ne (ne_of_none e hg0)]; exact s' _ _ e, by rw [upd_same, List.map_append]; rfl, by rw [List.length_append]; exact Nat.succ_le_succ hl⟩
    refine ⟨_, rfl, _, _, rfl, rfl, ⟨by decide, by decide, by decide⟩, _, _, rfl, rfl, _, rfl, ?_⟩
    refine ite2 (fun _ => ?_) (fun _ => ?_)
    · refine ⟨_, rfl, .inl ⟨rfl, _, SqL.of hg⟩, _, rfl, _, _, rfl, rfl, (by show (0 : Int) < 1000003; decide), g, _, _, rfl, rfl, hg, by rw [List.length_map, sizeLine_eq]; omega, ?_⟩
      refine ⟨_, rfl, _, _, rfl, rfl, ⟨by decide, by decide⟩, ?_⟩
      obtain ⟨a1, a2, a3⟩ := add (r % 1000003)
      exact ⟨a1, _, _, _, rfl, a2, a3⟩
    · refine ⟨_, rfl, .inl ⟨rfl, _, SqL.of hg⟩, _, rfl, _, rfl, _, _, rfl, i, j, rfl, rfl, by omega, fun z => ?_⟩
      refine ⟨g, _, _, rfl, rfl, hg, by rw [List.length_map, sizeLine_eq]; omega, ?_⟩
      obtain ⟨a1, a2, a3⟩ := add z
      exact ⟨a1, _, _, _, rfl, a2, a3⟩
  · rintro σ H' ⟨s', ns, r, u, rfl, hg, hl⟩
    refine ⟨_, rfl, g, _, rfl, SqL.of hg, fun p hp => ?_⟩
    have hpH : H p = none := by
      cases e : H p with
      | none => rfl
      | some o => rw [s' p o e] at hp; cases hp
    exact q p _ (s'.trans (same_new hp _)) hpH ⟨ns.reverse, by rw [upd_same, List.map_reverse]⟩
/-- the next number of a tape, below m -/
def spNext : Sp := sp2 fun v u H Q => ∃ (t : Addr) (m : Int), v = .ref t ∧ u = .int m ∧ TapeAt H t ∧ 0 < m ∧ ∀ (z : Nat) H', (z : Int) < m → But t H H' → TapeAt H' t → Q (.int z) H'
theorem scNext : FnScope ["_law_tape_here", "_law_many"] ["_law_tape_here", "_law_many"] (defScope sLawNext) := ⟨rfl, rfl, rfl, by decide +kernel, rfl, by decide +kernel, by decide +kernel⟩
theorem dp_ints {H : Hp} : ∀ ns : List Int, DpAll K H (ns.map V.int) (ns.map PyData.int)
  | [] => .nil
  | n :: ns => .cons (.int n) (dp_ints ns)
theorem shaped_ints : ∀ ns : List Int, SeqAt.shaped (.list (ns.map PyData.int)) = true := fun ns => by
  have h1 : PyData.canLayAll0 (ns.map PyData.int) = true := by
    induction ns with
    | nil => simp [PyData.canLayAll0]
    | cons n ns ih => simp [PyData.canLayAll0, PyData.canLay0, ih]
  have h2 : PyData.depthAll (ns.map PyData.int) ≤ 1 := by
    induction ns with
    | nil => simp [PyData.depthAll]
    | cons n ns ih => simp [PyData.depthAll, PyData.depth]; simp [PyData.canLayAll0] at h1; have := ih h1.2; omega
  unfold SeqAt.shaped
  simp [PyData.canLay0, h1, PyData.depth]
  omega
theorem ok_next (T : Tx K mg N) : Cal P w K mg base 1 "_law_next" spNext [] := by
  refine T.d_law_next.cal scNext (fun _ _ _ _ _ _ us hl => match us, hl with | [_, _], _ => rfl) len2 (fun f cdv A outer s H vs Q E hr h => ?_)
  obtain ⟨_, _, rfl, t, m, rfl, rfl, ⟨ns, ht⟩, hm, q⟩ := h
  refine ⟨_, pss_cons (ps_if (pt_cmpR (op_eqD hr.units) (pv 0) (pe_lst pa_nil) (nomark _)) (pss_one (ps_ret pe_int)) pss_nil)
    (pss_one (ps_ret (pe_op op_mod (pe_bm0 PySem.F.plainAttrs_list PySem.F.slot_list_pop PySem.F.type_list_pop mt_pop (pv 0)) (pv 1)))), ?_⟩
  refine ⟨_, rfl, (by show 0 ≤ sizeLine; decide), fun l hl0 => ?_⟩
  have s1 : Same H (upd H l (.lst [])) := same_new hl0 _
  refine ⟨.list (ns.map .int), .list [], .lst (SqL.of (s1 _ _ ht)) (dp_ints ns), .lst (SqL.of upd_same) .nil, shaped_ints ns, shaped_ints [], _, rfl, ?_⟩
  cases ns with
  | nil =>
    refine ite2 (fun _ => ?_) (fun h => absurd (by simp [PyData.eqv, PyData.eqvAll]) h)
    exact q 0 _ hm (but_same s1) ⟨[], s1 _ _ ht⟩
  | cons n ns =>
    refine ite2 (fun h => absurd h (by simp [PyData.eqv, PyData.eqvAll])) (fun _ => ?_)
    have ht1 := s1 _ _ ht
    obtain ⟨ms, z, ez⟩ : ∃ ms z, n :: ns = ms ++ [z] := ⟨(n :: ns).dropLast, (n :: ns).getLast (by simp), (List.dropLast_concat_getLast (by simp)).symm⟩
    rw [ez] at ht1
    have hlen : ((ms ++ [z]).map V.int).length - 1 = ms.length := by simp
    refine ⟨_, rfl, .inl ⟨rfl, _, SqL.of ht1⟩, t, _, .int z, rfl, rfl, ht1, by rw [hlen, List.map_append, List.getElem?_append_right (by simp)]; simp, ?_⟩
    refine ⟨_, rfl, _, _, rfl, rfl, hm, ?_⟩
    have h0 := Int.emod_nonneg z (show m ≠ 0 by omega)
    have h1 := Int.emod_lt_of_pos z hm
    have e := q (z % m).toNat (upd (upd H l (.lst [])) t (.lst ((ms ++ [z]).map V.int).dropLast)) (by omega) ((but_same s1).trans but_upd) ⟨ms, by rw [upd_same, List.map_append, List.map_singleton, List.dropLast_concat]⟩
    rw [Int.toNat_of_nonneg h0] at e
    exact e
end
end KG
end
section
set_option Elab.async false
set_option linter.all false
set_option autoImplicit false
set_option maxRecDepth 100000
set_option maxHeartbeats 4000000
/-! ## Told patterns as data; _law_joined, _law_so_many -/
namespace KG
open PySem PySem.Spec PyProof.Rows L2 KM
open C8 (Cal Met Mak pe_c pe_mk pe_mt pe_mt0)
mutual
def dtP : Dt → PyData
  | .str x => .str x
  | .int i => .int i
  | .tup ds => .tuple (dtPs ds)
def dtPs : List Dt → List PyData
  | [] => []
  | d :: ds => dtP d :: dtPs ds
end
mutual
def dtOk : Dt → Bool
  | .str x => x.cps.all (· < 0x110000)
  | .int _ => true
  | .tup ds => dtOks ds
def dtOks : List Dt → Bool
  | [] => true
  | d :: ds => dtOk d && dtOks ds
end
mutual
def dtDp : Dt → Nat
  | .str _ => 0
  | .int _ => 0
  | .tup ds => dtDps ds + 1
def dtDps : List Dt → Nat
  | [] => 0
  | d :: ds => max (dtDp d) (dtDps ds)
end
mutual
theorem lay_of : ∀ d : Dt, dtOk d = true → (dtP d).canLay0 = true
  | .str x, h => by rw [dtP, PyData.canLay0]; rw [dtOk] at h; exact h
  | .int i, _ => by rw [dtP, PyData.canLay0]
  | .tup ds, h => by rw [dtP, PyData.canLay0]; rw [dtOk] at h; exact lays_of ds h
theorem lays_of : ∀ ds : List Dt, dtOks ds = true → PyData.canLayAll0 (dtPs ds) = true
  | [], _ => by rw [dtPs, PyData.canLayAll0]
  | d :: ds, h => by
    rw [dtOks, Bool.and_eq_true] at h
    rw [dtPs, PyData.canLayAll0, lay_of d h.1, lays_of ds h.2]
    rfl
end
mutual
theorem depth_of : ∀ d : Dt, (dtP d).depth ≤ dtDp d + 1
  | .str x => by rw [dtP, PyData.depth]; omega
  | .int i => by rw [dtP, PyData.depth]; omega
  | .tup ds => by rw [dtP, PyData.depth, dtDp]; have := depths_of ds; omega
theorem depths_of : ∀ ds : List Dt, PyData.depthAll (dtPs ds) ≤ dtDps ds + 1
  | [] => by rw [dtPs, PyData.depthAll]; omega
  | d :: ds => by rw [dtPs, PyData.depthAll, dtDps]; have := depth_of d; have := depths_of ds; omega
end
theorem shaped_of {d : Dt} (h : dtOk d = true) (k : dtDp d ≤ 60) : SeqAt.shaped (dtP d) = true := by
  unfold SeqAt.shaped
  rw [lay_of d h, Bool.true_and, decide_eq_true_iff]
  have := depth_of d
  omega
mutual
theorem eqv_iff : ∀ d e : Dt, PyData.eqv (dtP d) (dtP e) = true ↔ d = e
  | .str x, .str y => by rw [dtP, dtP, PyData.eqv, beq_iff_eq]; exact ⟨fun h => by rw [h], fun h => by injection h⟩
  | .str x, .int i => by rw [dtP, dtP, PyData.eqv]; exact ⟨fun h => (by cases h), fun h => (by cases h)⟩
  | .str x, .tup ds => by rw [dtP, dtP, PyData.eqv]; exact ⟨fun h => (by cases h), fun h => (by cases h)⟩
  | .int i, .str x => by rw [dtP, dtP, PyData.eqv]; exact ⟨fun h => (by cases h), fun h => (by cases h)⟩
  | .int i, .int j => by rw [dtP, dtP, PyData.eqv, beq_iff_eq]; exact ⟨fun h => by rw [h], fun h => by injection h⟩
  | .int i, .tup ds => by rw [dtP, dtP, PyData.eqv]; exact ⟨fun h => (by cases h), fun h => (by cases h)⟩
  | .tup ds, .str x => by rw [dtP, dtP, PyData.eqv]; exact ⟨fun h => (by cases h), fun h => (by cases h)⟩
  | .tup ds, .int i => by rw [dtP, dtP, PyData.eqv]; exact ⟨fun h => (by cases h), fun h => (by cases h)⟩
  | .tup ds, .tup es => by rw [dtP, dtP, PyData.eqv, eqvs_iff ds es]; exact ⟨fun h => by rw [h], fun h => by injection h⟩
theorem eqvs_iff : ∀ ds es : List Dt, PyData.eqvAll (dtPs ds) (dtPs es) = true ↔ ds = es
  | [], [] => by rw [dtPs, PyData.eqvAll]; simp
  | [], e :: es => by rw [dtPs, dtPs, PyData.eqvAll]; simp
  | d :: ds, [] => by rw [dtPs, dtPs, PyData.eqvAll]; simp
  | d :: ds, e :: es => by
    rw [dtPs, dtPs, PyData.eqvAll, Bool.and_eq_true, eqv_iff d e, eqvs_iff ds es]
    exact ⟨fun h => by rw [h.1, h.2], fun h => by injection h with h1 h2; exact ⟨h1, h2⟩⟩
end
section
variable {K : PySem.W.Frag} {H : Hp}
mutual
theorem dp_of : ∀ (d : Dt) (v : V), DAt H d v → Dp K H v (dtP d)
  | .str x, v, h => by rw [DAt] at h; rw [h, dtP]; exact .str x
  | .int i, v, h => by rw [DAt] at h; rw [h, dtP]; exact .int i
  | .tup ds, v, h => by
    rw [DAt] at h
    obtain ⟨a, xs, e, ha, hs⟩ := h
    rw [e, dtP]
    exact .tup (SqT.of ha) (dps_of' ds xs hs)
theorem dps_of' : ∀ (ds : List Dt) (vs : List V), DAts H ds vs → DpAll K H vs (dtPs ds)
  | [], [], _ => by rw [dtPs]; exact .nil
  | d :: ds, v :: vs, h => by
    rw [DAts] at h
    rw [dtPs]
    exact .cons (dp_of d v h.1) (dps_of' ds vs h.2)
  | [], v :: vs, h => by simp [DAts] at h
  | d :: ds, [], h => by simp [DAts] at h
end
end
/-! ### told patterns -/
theorem kw_kd {p q : Pat} (h : kw p = kw q) : kdOf p = kdOf q := by
  cases p <;> cases q <;> first | rfl | (simp only [kw] at h; exact absurd h (by decide +kernel))
mutual
theorem told_inj : ∀ p q : Pat, toldD p = toldD q → p = q
  | p, q, h => by
    rw [toldD_kw, toldD_kw] at h
    injection h with h
    injection h with h1 h2
    injection h1 with h1
    have hk := kw_kd h1
    cases p with
    | one f =>
      cases q with
      | one g => rw [restD, restD] at h2; injection h2 with h2; injection h2 with h2; rw [h2]
      | _ => cases hk
    | chain ps =>
      cases q with
      | chain qs => rw [restD, restD] at h2; injection h2 with h2; injection h2 with h2; rw [tolds_inj ps qs h2]
      | _ => cases hk
    | choice ps =>
      cases q with
      | choice qs => rw [restD, restD] at h2; injection h2 with h2; injection h2 with h2; rw [tolds_inj ps qs h2]
      | _ => cases hk
    | mixed ps =>
      cases q with
      | mixed qs => rw [restD, restD] at h2; injection h2 with h2; injection h2 with h2; rw [tolds_inj ps qs h2]
      | _ => cases hk
    | times p lo hi =>
      cases q with
      | times q l2 h3 =>
        rw [restD, restD] at h2
        injection h2 with a1 h2
        injection h2 with a2 h2
        injection h2 with a3 _
        injection a2 with a2
        injection a3 with a3
        have e1 := told_inj p q a1
        have e2 : lo = l2 := by omega
        have e3 : hi = h3 := by
          cases hi with
          | none =>
            cases h3 with
            | none => rfl
            | some b => have a4 : (-1 : Int) = (b : Int) := a3; omega
          | some a =>
            cases h3 with
            | none => have a4 : ((a : Nat) : Int) = -1 := a3; omega
            | some b => have a4 : ((a : Nat) : Int) = (b : Int) := a3; rw [show a = b by omega]
        rw [e1, e2, e3]
      | _ => cases hk
theorem tolds_inj : ∀ ps qs : List Pat, toldDs ps = toldDs qs → ps = qs
  | [], [], _ => rfl
  | [], q :: qs, h => by rw [toldDs, toldDs] at h; cases h
  | p :: ps, [], h => by rw [toldDs, toldDs] at h; cases h
  | p :: ps, q :: qs, h => by
    rw [toldDs, toldDs] at h
    injection h with h1 h2
    rw [told_inj p q h1, tolds_inj ps qs h2]
end
theorem nameOk_cps {f : Str} (h : NameOk f) : f.cps.all (· < 0x110000) = true := by
  rw [← Array.all_toList, List.all_eq_true]
  intro c hc
  have := (h.2.2 c hc).2
  exact decide_eq_true (by omega)
mutual
theorem told_ok : ∀ p : Pat, Cn p → dtOk (toldD p) = true ∧ dtDp (toldD p) ≤ 2 * dp p
  | .one f, h => by
    rw [Cn] at h
    rw [toldD, dtOk, dtOks, dtOk, dtOks, dtOk, dtOks, nameOk_cps h, dtDp, dtDps, dtDps, dtDps, dtDp, dtDp, dp]
    exact ⟨by decide +kernel, by omega⟩
  | .chain ps, h => by
    obtain ⟨a, b⟩ := tolds_ok ps (cn_chain h)
    rw [toldD, dtOk, dtOks, dtOk, dtOks, dtOk, dtOks, a, dtDp, dtDps, dtDps, dtDps, dtDp, dtDp, dp]
    exact ⟨by decide +kernel, by omega⟩
  | .choice ps, h => by
    obtain ⟨a, b⟩ := tolds_ok ps (cn_choice h)
    rw [toldD, dtOk, dtOks, dtOk, dtOks, dtOk, dtOks, a, dtDp, dtDps, dtDps, dtDps, dtDp, dtDp, dp]
    exact ⟨by decide +kernel, by omega⟩
  | .mixed ps, h => by
    obtain ⟨a, b⟩ := tolds_ok ps (cn_mixed h)
    rw [toldD, dtOk, dtOks, dtOk, dtOks, dtOk, dtOks, a, dtDp, dtDps, dtDps, dtDps, dtDp, dtDp, dp]
    exact ⟨by decide +kernel, by omega⟩
  | .times p lo hi, h => by
    obtain ⟨a, b⟩ := told_ok p (cn_times h)
    rw [toldD, dtOk, dtOks, dtOk, dtOks, a, dtOks, dtOk, dtOks, dtOk, dtOks, dtDp, dtDps, dtDps, dtDps, dtDps, dtDps, dtDp, dtDp, dtDp, dp]
    exact ⟨by decide +kernel, by omega⟩
theorem tolds_ok : ∀ ps : List Pat, (∀ p ∈ ps, Cn p) → dtOks (toldDs ps) = true ∧ dtDps (toldDs ps) ≤ 2 * dps ps
  | [], _ => by rw [toldDs, dtOks, dtDps]; exact ⟨rfl, by omega⟩
  | p :: ps, h => by
    obtain ⟨a, b⟩ := told_ok p (h p List.mem_cons_self)
    obtain ⟨c, d⟩ := tolds_ok ps fun q hq => h q (List.mem_cons_of_mem _ hq)
    rw [toldDs, dtOks, a, c, dtDps, dps]
    exact ⟨rfl, by omega⟩
end
end KG
end
section
set_option Elab.async false
set_option linter.all false
set_option autoImplicit false
set_option maxRecDepth 100000
set_option maxHeartbeats 4000000
/-! ## _law_joined, _law_so_many -/
namespace KG
open PySem PySem.Spec PyProof.Rows L2 KM
open C8 (Cal Met Mak pe_c pe_mk pe_mt pe_mt0)
open Classical
def kwK : Kd → Str
  | .one => "one"
  | .chain => "chain"
  | .choice => "choice"
  | .times => "times"
  | .mixed => "mixed"
theorem kw_K (p : Pat) : kw p = kwK (kdOf p) := by cases p <;> rfl
theorem kwK_inj {j k : Kd} (h : kwK j = kwK k) : j = k := by
  cases j <;> cases k <;> first | rfl | (simp only [kwK] at h; exact absurd h (by decide +kernel))
/-- how a kind opens a part -/
def fK : Kd → Pat → List Pat
  | .mixed => mparts
  | .choice => oparts
  | _ => parts
noncomputable def joinK : Kd → List Pat → Pat
  | .mixed, ps => mixed' ps
  | .choice, ps => choice' ps
  | _, ps => chain' ps
def Jk (k : Kd) : Prop := k = .chain ∨ k = .mixed ∨ k = .choice
theorem fK_same {k : Kd} {p : Pat} (j : Jk k) (h : kdOf p = k) : toldD p = .tup [.str (kwK k), .tup (toldDs (fK k p))] := by
  rcases j with j | j | j <;> subst j
  · cases p with
    | chain ps => rw [toldD]; rfl
    | _ => cases h
  · cases p with
    | mixed ps => rw [toldD]; rfl
    | _ => cases h
  · cases p with
    | choice ps => rw [toldD]; rfl
    | _ => cases h
theorem fK_other {k : Kd} {p : Pat} (j : Jk k) (h : kdOf p ≠ k) (h2 : k ≠ .mixed ∨ p ≠ .chain []) : fK k p = [p] := by
  rcases j with j | j | j <;> subst j
  · exact parts_other h
  · refine mparts_other h ?_
    cases hb : isEmpty p with
    | false => rfl
    | true => exact absurd (isEmpty_eq hb) (h2.resolve_left fun z => z rfl)
  · exact oparts_other h
theorem fK_none {p : Pat} (h : p = .chain []) : fK .mixed p = [] := by rw [h]; rfl
theorem fK_len {k : Kd} (p : Pat) : (fK k p).length ≤ sz p + 1 := by
  cases k
  · exact parts_len p
  · exact parts_len p
  · exact oparts_len p
  · exact parts_len p
  · exact mparts_len p
/-- told patterns of a list -/
def ToldsAt (H : Hp) (ps : List Pat) (vs : List V) : Prop := DAts H (toldDs ps) vs
theorem tolds_get {H : Hp} {ps : List Pat} {vs : List V} (h : ToldsAt H ps vs) : vs.length = ps.length ∧ ∀ (i : Nat) (p : Pat), ps[i]? = some p → ∃ v, vs[i]? = some v ∧ DAt H (toldD p) v :=
  ⟨by rw [dats_len h, toldDs_map, List.length_map], fun i p e => dats_get h (by rw [toldDs_map, List.getElem?_map, e]; rfl)⟩
theorem tolds_app {H : Hp} : ∀ {ps qs : List Pat} {vs ws : List V}, ToldsAt H ps vs → ToldsAt H qs ws → ToldsAt H (ps ++ qs) (vs ++ ws)
  | [], qs, [], ws, _, h => h
  | p :: ps, qs, v :: vs, ws, h, k => by
    unfold ToldsAt at h ⊢
    rw [toldDs, DAts] at h
    rw [List.cons_append, List.cons_append, toldDs, DAts]
    exact ⟨h.1, tolds_app (ps := ps) h.2 k⟩
  | [], qs, v :: vs, ws, h, _ => by unfold ToldsAt at h; simp [toldDs, DAts] at h
  | p :: ps, qs, [], ws, h, _ => by unfold ToldsAt at h; simp [toldDs, DAts] at h
theorem tolds_one {H : Hp} {p : Pat} {v : V} (h : DAt H (toldD p) v) : ToldsAt H [p] [v] := by
  unfold ToldsAt
  rw [toldDs, toldDs, DAts, DAts]
  exact ⟨h, trivial⟩
theorem ToldsAt.fz {H H' : Hp} {ps : List Pat} {vs : List V} (z : Fz H H') (h : ToldsAt H ps vs) : ToldsAt H' ps vs := DAts.fz z h
section
variable {P : Program} {w : World} {K : PySem.W.Frag} {mg : Str → Option Value} {base : Heap} {N : Nm}
def spJoin : Sp := sp2 fun v u H Q => ∃ (k : Kd) (l : Addr) (ps : List Pat) (vs : List V), v = .str (kwK k) ∧ u = .ref l ∧ Jk k ∧ H l = some (.lst vs) ∧ ToldsAt H ps vs ∧ (∀ p ∈ ps, Cn p ∧ dp p ≤ 20) ∧ szs ps ≤ 3000 ∧
  ∀ v' H', Same H H' → DAt H' (toldD (joinK k ps)) v' → Q v' H'
theorem scJoin : FnScope ["_law_kind", "_law_parts", "_law_some", "_law_part_here", "_law_k"] ["_law_kind", "_law_parts"] (defScope sLawJoined) := ⟨rfl, rfl, rfl, by decide +kernel, rfl, by decide +kernel, by decide +kernel⟩
theorem told_sh {p : Pat} (h : Cn p) (k : dp p ≤ 20) : SeqAt.shaped (dtP (toldD p)) = true := by
  obtain ⟨a, b⟩ := told_ok p h
  exact shaped_of a (by omega)
theorem empty_told {H : Hp} {a b : Addr} (h1 : H a = some (.tup [.str (Str.ofString "chain"), .ref b])) (h2 : H b = some (.tup [])) : DAt H (toldD (.chain [])) (.ref a) := by
  rw [toldD, DAt]
  refine ⟨a, _, rfl, h1, ?_⟩
  rw [toldDs, DAts, DAts, DAts, DAt, DAt]
  exact ⟨rfl, ⟨b, [], rfl, h2, by simp [DAts]⟩, trivial⟩
theorem cnE : Cn (.chain []) ∧ dp (.chain []) ≤ 20 := ⟨cn_empty, by rw [dp, dps]; omega⟩
theorem eqv_told {p q : Pat} : PyData.eqv (dtP (toldD p)) (dtP (toldD q)) = decide (p = q) := by
  by_cases h : p = q
  · rw [decide_eq_true h, eqv_iff, h]
  · rw [decide_eq_false h]
    cases e : PyData.eqv (dtP (toldD p)) (dtP (toldD q)) with
    | false => rfl
    | true => exact absurd (told_inj p q ((eqv_iff _ _).mp e)) h
theorem told_all {H : Hp} : ∀ {ps : List Pat} {vs : List V}, ToldsAt H ps vs → DpAll K H vs (ps.map fun p => dtP (toldD p))
  | [], [], _ => .nil
  | p :: ps, v :: vs, h => by
    unfold ToldsAt at h
    rw [toldDs, DAts] at h
    exact .cons (dp_of _ _ h.1) (told_all (ps := ps) h.2)
  | [], v :: vs, h => by unfold ToldsAt at h; simp [toldDs, DAts] at h
  | p :: ps, [], h => by unfold ToldsAt at h; simp [toldDs, DAts] at h
theorem list_sh : ∀ {ps : List Pat}, (∀ p ∈ ps, Cn p ∧ dp p ≤ 20) → SeqAt.shaped (.list (ps.map fun p => dtP (toldD p))) = true := fun {ps} h => by
  have h1 : PyData.canLayAll0 (ps.map fun p => dtP (toldD p)) = true ∧ PyData.depthAll (ps.map fun p => dtP (toldD p)) ≤ 42 := by
    induction ps with
    | nil => simp [PyData.canLayAll0, PyData.depthAll]
    | cons p ps ih =>
      obtain ⟨a, b⟩ := told_ok p (h p List.mem_cons_self).1
      have c := (h p List.mem_cons_self).2
      obtain ⟨d, e⟩ := ih fun q hq => h q (List.mem_cons_of_mem _ hq)
      have f := depth_of (toldD p)
      rw [List.map_cons, PyData.canLayAll0, PyData.depthAll, lay_of _ a, d]
      exact ⟨rfl, by omega⟩
  unfold SeqAt.shaped
  rw [PyData.canLay0, PyData.depth, h1.1, Bool.true_and, decide_eq_true_iff]
  have := h1.2
  omega
theorem any_told {ps : List Pat} {q : Pat} : ((ps.map fun p => dtP (toldD p)).any fun z => PyData.eqv z (dtP (toldD q))) = decide (q ∈ ps) := by
  induction ps with
  | nil => rfl
  | cons p ps ih =>
    rw [List.map_cons, List.any_cons, ih, eqv_told]
    by_cases h : p = q
    · subst h; simp
    · rw [decide_eq_false h, Bool.false_or]
      have : (q ∈ p :: ps) ↔ q ∈ ps := by
        rw [List.mem_cons]
        exact ⟨fun z => z.elim (fun e => absurd e.symm h) id, .inr⟩
      simp [this]
/-! ### _law_so_many -/
def spSoMany : Sp := sp3 fun v u z H Q => ∃ (p : Pat) (lo : Nat) (hi : Option Nat), u = .int lo ∧ z = .int (hiI hi) ∧ DAt H (toldD p) v ∧ Cn p ∧ dp p ≤ 20 ∧ ∀ v' H', Same H H' → DAt H' (toldD (times' p lo hi)) v' → Q v' H'
theorem scSoMany : FnScope ["_law_part_here", "_law_low", "_law_high"] ["_law_part_here", "_law_low", "_law_high"] (defScope sLawSoMany) := ⟨rfl, rfl, rfl, by decide +kernel, rfl, by decide +kernel, by decide +kernel⟩
theorem ok_so_many (T : Tx K mg N) : Cal P w K mg base 1 "_law_so_many" spSoMany [] := by
  refine T.d_law_so_many.cal scSoMany (fun _ _ _ _ _ _ us hl => match us, hl with | [_, _, _], _ => rfl) len3 (fun f cdv A outer s H vs Q E hr h => ?_)
  obtain ⟨v, _, _, rfl, p, lo, hi, rfl, rfl, hp, hc, hd, k⟩ := h
  refine ⟨_, pss_cons (ps_if (PW.pt (pw_or (pt_cmpR op_eq (pv 2) pe_int (nomark _)) (pw_or1 (pt_cmpR (op_eqD hr.units) (pv 0) (pe_tup (pa_cons pe_str (pa_cons (pe_tup pa_nil) pa_nil))) (nomark _))))) (pss_one (ps_ret (pe_tup (pa_cons pe_str (pa_cons (pe_tup pa_nil) pa_nil))))) pss_nil)
    (pss_cons (ps_if (PW.pt (pw_and (pt_cmpR op_eq (pv 1) pe_int (nomark _)) (pw_and1 (pt_cmpR op_eq (pv 2) pe_int (nomark _))))) (pss_one (ps_ret (pv 0))) pss_nil)
    (pss_one (ps_ret (pe_tup (pa_cons pe_str (pa_cons (pv 0) (pa_cons (pv 1) (pa_cons (pv 2) pa_nil)))))))), ?_⟩
  have emp : ∀ H1, Same H H1 → times' p lo hi = .chain [] → tRet (tTup (tCons (tC (.str (Str.ofString "chain"))) (tCons (tTup tNil) tNil))) { nx := fun x H' => Q .non H', rt := Q } (L2.start ["_law_part_here", "_law_low", "_law_high"] [v, .int lo, .int (hiI hi)]) H1 := fun H1 s1 ek => by
    refine ⟨(by show 0 ≤ sizeLine; decide), fun b hb0 => ⟨(by show 2 ≤ sizeLine; decide), fun a ha0 => ?_⟩⟩
    have s2 : Same H1 (upd H1 b (.tup [])) := same_new hb0 _
    have s3 : Same (upd H1 b (.tup [])) (upd (upd H1 b (.tup [])) a (.tup [.str (Str.ofString "chain"), .ref b])) := same_new ha0 _
    refine k _ _ (s1.trans (s2.trans s3)) ?_
    rw [ek]
    exact empty_told upd_same (s3 _ _ upd_same)
  refine ⟨_, rfl, rfl, _, rfl, ?_⟩
  rw [dec_int]
  by_cases h0 : hi = some 0
  · subst h0
    refine iteT ?_
    refine iteT ?_
    exact emp H (Same.refl H) (by rw [times', if_pos (.inl rfl)])
  rw [show (hiI hi == 0) = false from by
    rw [beq_eq_false_iff_ne]
    cases hi with
    | none => decide
    | some h =>
      show ((h : Nat) : Int) ≠ 0
      intro z
      exact h0 (by rw [show h = 0 by omega])]
  refine iteF ?_
  refine ⟨_, rfl, (by show 0 ≤ sizeLine; decide), fun b hb0 => ⟨(by show 2 ≤ sizeLine; decide), fun a ha0 => ?_⟩⟩
  have s2 : Same H (upd H b (.tup [])) := same_new hb0 _
  have s3 : Same (upd H b (.tup [])) (upd (upd H b (.tup [])) a (.tup [.str (Str.ofString "chain"), .ref b])) := same_new ha0 _
  have et : DAt (upd (upd H b (.tup [])) a (.tup [.str (Str.ofString "chain"), .ref b])) (toldD (.chain [])) (.ref a) := empty_told upd_same (s3 _ _ upd_same)
  have s23 := s2.trans s3
  generalize upd (upd H b (.tup [])) a (.tup [.str (Str.ofString "chain"), .ref b]) = H1 at *
  refine ⟨_, _, dp_of _ _ (hp.fz (fz_same s23)), dp_of _ _ et, told_sh hc hd, told_sh cnE.1 cnE.2, _, rfl, ?_⟩
  rw [eqv_told]
  by_cases he : p = .chain []
  · rw [decide_eq_true he]
    refine iteT ?_
    exact emp H1 s23 (by rw [times', if_pos (.inr (by rw [he]; rfl))])
  rw [decide_eq_false he]
  refine iteF ?_
  have ne : ¬ (hi = some 0 ∨ isEmpty p = true) := fun z => z.elim h0 fun z => he (isEmpty_eq z)
  have last : ∀ (H2 : Hp), Same H H2 → times' p lo hi = .times p lo hi → tRet (tTup (tCons (tC (.str (Str.ofString "times"))) (tCons (tVar 0) (tCons (tVar 1) (tCons (tVar 2) tNil))))) { nx := fun x H' => Q .non H', rt := Q } (L2.start ["_law_part_here", "_law_low", "_law_high"] [v, .int lo, .int (hiI hi)]) H2 := fun H2 s4 ek => by
    refine ⟨_, rfl, _, rfl, _, rfl, (by show 4 ≤ sizeLine; decide), fun a ha0 => ?_⟩
    have s5 : Same H2 (upd H2 a (.tup [.str (Str.ofString "times"), v, .int lo, .int (hiI hi)])) := same_new ha0 _
    refine k _ _ (s4.trans s5) ?_
    rw [ek, toldD, DAt]
    refine ⟨a, _, rfl, upd_same, ?_⟩
    rw [DAts, DAts, DAts, DAts, DAts, DAt, DAt, DAt]
    exact ⟨rfl, hp.fz (fz_same (s4.trans s5)), rfl, rfl, trivial⟩
  refine ⟨_, rfl, rfl, _, rfl, ?_⟩
  rw [dec_int]
  by_cases h1 : lo = 1
  · subst h1
    refine iteT ?_
    refine ⟨_, rfl, rfl, _, rfl, ?_⟩
    rw [dec_int]
    by_cases h2 : hi = some 1
    · subst h2
      refine iteT ?_
      exact ⟨_, rfl, k _ _ s23 (by rw [times', if_neg ne, if_pos ⟨rfl, rfl⟩]; exact hp.fz (fz_same s23))⟩
    · rw [show (hiI hi == 1) = false from by
        rw [beq_eq_false_iff_ne]
        cases hi with
        | none => decide
        | some h =>
          show ((h : Nat) : Int) ≠ 1
          intro z
          exact h2 (by rw [show h = 1 by omega])]
      refine iteF ?_
      exact last _ s23 (by rw [times', if_neg ne, if_neg (by rintro ⟨_, z⟩; exact h2 z)])
  · rw [show (((lo : Nat) : Int) == 1) = false from by rw [beq_eq_false_iff_ne]; omega]
    refine iteF ?_
    refine iteF ?_
    exact last _ s23 (by rw [times', if_neg ne, if_neg (by rintro ⟨z, _⟩; exact h1 z)])
end
end KG
end
section
set_option Elab.async false
set_option linter.all false
set_option autoImplicit false
set_option maxRecDepth 100000
set_option maxHeartbeats 4000000
/-! ## _law_joined -/
namespace KG
open PySem PySem.Spec PyProof.Rows L2 KM
open C8 (Cal Met Mak pe_c pe_mk pe_mt pe_mt0)
open Classical
theorem fK_cn {k : Kd} {p : Pat} (h : Cn p) (hd : dp p ≤ 20) : ∀ q ∈ fK k p, Cn q ∧ dp q ≤ 20 := by
  have P1 : ∀ q ∈ parts p, Cn q ∧ dp q ≤ 20 := fun q hq => by
    cases p with
    | chain ps => exact ⟨cn_chain h q hq, by rw [dp] at hd; have := dps_mem (show q ∈ ps from hq); omega⟩
    | _ => rw [List.mem_singleton.mp hq]; exact ⟨h, hd⟩
  cases k
  · exact P1
  · exact P1
  · intro q hq
    cases p with
    | choice ps => exact ⟨cn_choice h q hq, by rw [dp] at hd; have := dps_mem (show q ∈ ps from hq); omega⟩
    | _ => rw [List.mem_singleton.mp hq]; exact ⟨h, hd⟩
  · exact P1
  · intro q hq
    cases p with
    | mixed ps => exact ⟨cn_mixed h q hq, by rw [dp] at hd; have := dps_mem (show q ∈ ps from hq); omega⟩
    | chain ps =>
      cases ps with
      | nil => cases hq
      | cons x xs => rw [List.mem_singleton.mp hq]; exact ⟨h, hd⟩
    | _ => rw [List.mem_singleton.mp hq]; exact ⟨h, hd⟩
/-- the end of joining -/
noncomputable def endK : Kd → List Pat → Pat
  | .mixed, xs => mkm xs
  | .choice, xs => mko xs
  | _, xs => mk xs
theorem join_end {k : Kd} (j : Jk k) (ps : List Pat) : joinK k ps = endK k (if k = .choice then once (ps.flatMap (fK k)) else ps.flatMap (fK k)) := by
  rcases j with j | j | j <;> subst j
  · rfl
  · rfl
  · rfl
theorem end_one {k : Kd} (j : Jk k) (x : Pat) : endK k [x] = x := by rcases j with j | j | j <;> subst j <;> rfl
theorem end_many {k : Kd} (j : Jk k) {xs : List Pat} (h : xs.length ≠ 1) (h2 : k = .mixed → xs ≠ []) : toldD (endK k xs) = .tup [.str (kwK k), .tup (toldDs xs)] := by
  rcases j with j | j | j <;> subst j
  · match xs, h with
    | [], _ => rfl
    | x :: y :: xs, _ => rfl
  · match xs, h, h2 with
    | [], _, h2 => exact absurd rfl (h2 rfl)
    | x :: y :: xs, _, _ => rfl
  · match xs, h with
    | [], _ => rfl
    | x :: y :: xs, _ => rfl
section
variable {P : Program} {w : World} {K : PySem.W.Frag} {mg : Str → Option Value} {base : Heap} {N : Nm}
theorem dec_str {x y : Str} : decide (V.str x = V.str y) = decide (x = y) := by
  by_cases h : x = y
  · subst h; simp
  · rw [decide_eq_false h, decide_eq_false (fun z => h (by injection z))]
theorem hu65_of {A : Around} {k : Nat} (hr : Room k A) : A.units + 65 < cLine := by have := hr.un; omega
theorem ok_join (T : Tx K mg N) : Cal P w K mg base 1 "_law_joined" spJoin [] := by
  refine T.d_law_joined.cal scJoin (fun _ _ _ _ _ _ us hl => match us, hl with | [_, _], _ => rfl) len2 (fun f cdv A outer s H vs Q E hr h => ?_)
  obtain ⟨_, _, rfl, kd, l, ps, vs, rfl, rfl, jk, hl, htl, hcn, hsz, k⟩ := h
  obtain ⟨hvl, hvg⟩ := tolds_get htl
  refine ⟨_, pss_cons (ps_set (i := 2) scJoin.nd rfl (Or.inr rfl) (pe_lst pa_nil))
    (pss_cons (ps_for PassesOwn.never rfl (pi_list (pv 1)) (pg_name (i := 3) scJoin.nd rfl (Or.inl rfl))
      (pss_one (ps_if (pt_cmpR op_eq (pe_ix ix_tup (pv 3) pe_int (fun _ _ => rfl)) (pv 0) (nomark _))
        (pss_one (ps_expr (pe_bm PySem.F.plainAttrs_list PySem.F.slot_list_extend PySem.F.type_list_extend mt_extend (pv 2) (pa_cons (pe_callTy call_list_of rfl T.z_list boot_list (pa_cons (pe_ix ix_tup (pv 3) pe_int (fun _ _ => rfl)) pa_nil)) pa_nil))))
        (pss_one (ps_if (PW.pt (pw_or (pt_cmpR op_ne (pv 0) pe_str (nomark _)) (pw_or1 (pt_cmpR (op_neD hr.units) (pv 3) (pe_tup (pa_cons pe_str (pa_cons (pe_tup pa_nil) pa_nil))) (nomark _)))))
          (pss_one (ps_expr (pe_bm PySem.F.plainAttrs_list PySem.F.slot_list_append PySem.F.type_list_append mt_append (pv 2) (pa_cons (pv 3) pa_nil)))) pss_nil)))))
    (pss_cons (ps_if (pt_cmpR op_eq (pv 0) pe_str (nomark _))
      (pss_one (ps_set (i := 2) scJoin.nd rfl (Or.inr rfl) (pe_lc (own := [("_law_k", 4)]) (g := gName 4) (tt := tTest (tOp (rNotInD K) (tOp (rIxL K) (tVar 2) (tVar 4)) (tSl (rSlL K) (tVar 2) tNoPart (tPart (tVar 4))))) (te := tOp (rIxL K) (tVar 2) (tVar 4)) rfl scJoin.nd (pi_range1 (by rfl) T.z_range (pa_cons (pe_callB call_len_seq (by rfl) T.z_len PySem.boot_len (pa_cons (pv 2) pa_nil)) pa_nil)) (blkOk_by (N := ["_law_kind", "_law_parts", "_law_some", "_law_part_here", "_law_k"]) (sc := defScope sLawJoined) (by decide +kernel))
        (fun _ _ _ _ _ => pg_name (i := 4) scJoin.nd rfl (Or.inl rfl)) (fun _ _ _ _ _ => pts_one (pt_cmpR (op_notInD (hu65_of hr)) (pe_ix ix_list (pv 2) (pv 4) (fun _ _ => rfl)) (pe_slice sl_list (pv 2) po_none (po_some (pv 4))) (by rfl))) (fun _ _ _ _ _ => pe_ix ix_list (pv 2) (pv 4) (fun _ _ => rfl))))) pss_nil)
    (pss_cons (ps_if (PW.pt (pw_and (pt_cmpR op_eq (pv 0) pe_str (nomark _)) (pw_and1 (pt_cmpR op_eq (pe_callB call_len_seq (by rfl) T.z_len PySem.boot_len (pa_cons (pv 2) pa_nil)) pe_int (nomark _))))) (pss_one (ps_ret (pe_tup (pa_cons pe_str (pa_cons (pe_tup pa_nil) pa_nil))))) pss_nil)
    (pss_cons (ps_if (pt_cmpR op_eq (pe_callB call_len_seq (by rfl) T.z_len PySem.boot_len (pa_cons (pv 2) pa_nil)) pe_int (nomark _)) (pss_one (ps_ret (pe_ix ix_list (pv 2) pe_int (fun _ _ => rfl)))) pss_nil)
    (pss_one (ps_ret (pe_tup (pa_cons (pv 0) (pa_cons (pe_callTy call_tuple_of rfl T.z_tuple boot_tuple (pa_cons (pv 2) pa_nil)) pa_nil))))))))), ?_⟩
  -- READ
  refine ⟨(by show 0 ≤ sizeLine; decide), fun g hg0 => ?_⟩
  have s0 : Same H (upd H g (.lst [])) := same_new hg0 _
  have gl : ∀ i, ((ps.take i).flatMap (fK kd)).length ≤ 3000 := fun i => Nat.le_trans (Nat.le_trans (fm_len fK_len _) (szs_take ps i)) hsz
  refine ⟨_, rfl, l, rfl, ⟨_, SqL.of (s0 _ _ hl)⟩, for_list (xs := vs) (fun i σ H' => ∃ u4 u5, σ = [some (.str (kwK kd)), some (.ref l), some (.ref g), u4, u5] ∧ Same H H' ∧ ∃ ws, H' g = some (.lst ws) ∧ ToldsAt H' ((ps.take i).flatMap (fK kd)) ws) ?_ ?_ ?_ ?_⟩
  · exact ⟨none, none, rfl, s0, [], upd_same, by unfold ToldsAt; simp [toldDs, DAts]⟩
  · rintro i σ H' hi ⟨u4, u5, rfl, s', _⟩
    exact SqL.of (s' _ _ hl)
  · rintro i x σ H' hx ⟨u4, u5, rfl, s', ws, hg, hws⟩
    have hi : i < ps.length := by
      have := (List.getElem?_eq_some_iff.mp hx).1
      omega
    have ep : ps[i]? = some ps[i] := List.getElem?_eq_getElem hi
    obtain ⟨v, f1, f2⟩ := hvg i _ ep
    rw [f1] at hx
    cases hx
    have f3 := f2.fz (fz_same s')
    obtain ⟨ta, tvs, e1, e2, e3⟩ := told_at f3
    subst e1
    have hcp := hcn _ (List.getElem_mem hi)
    have e6 : (ps.take (i + 1)).flatMap (fK kd) = (ps.take i).flatMap (fK kd) ++ fK kd ps[i] := fm_take ep
    have hwl := (tolds_get hws).1
    have g1 := gl (i + 1)
    rw [e6, List.length_append] at g1
    have put : ∀ (H2 : Hp) (zs : List V), Same H' H2 → ToldsAt H2 (fK kd ps[i]) zs → (∃ u4 u5, [some (V.str (kwK kd)), some (.ref l), some (.ref g), some (.ref ta), (none : Option V)] = [some (.str (kwK kd)), some (.ref l), some (.ref g), u4, u5] ∧ Same H (upd H2 g (.lst (ws ++ zs))) ∧ ∃ ws', (upd H2 g (.lst (ws ++ zs))) g = some (.lst ws') ∧ ToldsAt (upd H2 g (.lst (ws ++ zs))) ((ps.take (i + 1)).flatMap (fK kd)) ws') := fun H2 zs s2 hz => by
      have z : Fz H2 (upd H2 g (.lst (ws ++ zs))) := fz_updL (s2 _ _ hg)
      refine ⟨_, _, rfl, fun b o e => by rw [upd_ne (ne_of_none e hg0)]; exact s2 _ _ (s' _ _ e), _, upd_same, ?_⟩
      rw [e6]
      exact tolds_app (hws.fz ((fz_same s2).trans z)) (hz.fz z)
    refine ⟨_, rfl, ta, _, _, _, rfl, rfl, SqT.of e2, at0, _, rfl, rfl, _, rfl, ?_⟩
    rw [dec_str, kw_K]
    by_cases hk : kdOf ps[i] = kd
    · rw [decide_eq_true (by rw [hk])]
      refine iteT ?_
      have eD := fK_same jk hk
      rw [eD, DAt] at f3
      obtain ⟨ta2, xs2, q1, q2, q3⟩ := f3
      injection q1 with q1
      subst q1
      match xs2, q3 with
      | [x1, x2], q3 =>
        rw [DAts, DAts, DAts] at q3
        obtain ⟨_, q4, _⟩ := q3
        rw [DAt] at q4
        obtain ⟨tb, zs, q5, q6, q7⟩ := q4
        subst q5
        have hzl := (tolds_get (ps := fK kd ps[i]) q7).1
        refine ⟨_, rfl, .inl ⟨rfl, _, SqL.of hg⟩, _, rfl, ta, _, _, _, rfl, rfl, SqT.of q2, at1, tb, _, rfl, .inr (SqT.of q6), fun m hm => ?_⟩
        have sm : Same H' (upd H' m (.lst zs)) := same_new hm _
        refine ⟨g, m, _, _, rfl, rfl, sm _ _ hg, upd_same, by rw [sizeLine_eq]; omega, ?_⟩
        obtain ⟨_, _, _, r1, r2⟩ := put _ zs sm (DAts.fz (fz_same sm) q7)
        exact ⟨_, _, rfl, r1, r2⟩
      | [], q3 => simp [DAts] at q3
      | [x1], q3 => simp [DAts] at q3
      | x1 :: x2 :: x3 :: xs3, q3 => simp [DAts] at q3
    · rw [decide_eq_false (fun z => hk (kwK_inj z))]
      refine iteF ?_
      refine ⟨_, rfl, rfl, _, rfl, ?_⟩
      have app : ∀ (D : Ends) (H2 : Hp), (∀ σ H', (∃ u4 u5, σ = [some (.str (kwK kd)), some (.ref l), some (.ref g), u4, u5] ∧ Same H H' ∧ ∃ ws, H' g = some (.lst ws) ∧ ToldsAt H' ((ps.take (i + 1)).flatMap (fK kd)) ws) → D.nx σ H') → Same H' H2 → fK kd ps[i] = [ps[i]] → tDrop (tBM K "list" rAppend (tVar 2) (tCons (tVar 3) tNil)) D [some (V.str (kwK kd)), some (.ref l), some (.ref g), some (.ref ta), u5] H2 := fun D H2 kD s2 ef => by
        refine ⟨_, rfl, .inl ⟨rfl, _, SqL.of (s2 _ _ hg)⟩, _, rfl, g, _, _, rfl, rfl, s2 _ _ hg, by rw [sizeLine_eq]; omega, ?_⟩
        obtain ⟨_, _, _, r1, r2⟩ := put H2 [.ref ta] s2 (by rw [ef]; exact tolds_one (f2.fz ((fz_same s').trans (fz_same s2))))
        exact kD _ _ ⟨_, _, rfl, r1, r2⟩
      rw [show (Str.ofString "mixed") = kwK .mixed from rfl, dec_str]
      by_cases hm : kd = .mixed
      · rw [decide_eq_true (by rw [hm])]
        refine iteF ?_
        refine ⟨_, rfl, (by show 0 ≤ sizeLine; decide), fun b hb0 => ⟨(by show 2 ≤ sizeLine; decide), fun a ha0 => ?_⟩⟩
        have s2 : Same H' (upd H' b (.tup [])) := same_new hb0 _
        have s3 : Same (upd H' b (.tup [])) (upd (upd H' b (.tup [])) a (.tup [.str (Str.ofString "chain"), .ref b])) := same_new ha0 _
        have et : DAt (upd (upd H' b (.tup [])) a (.tup [.str (Str.ofString "chain"), .ref b])) (toldD (.chain [])) (.ref a) := empty_told upd_same (s3 _ _ upd_same)
        have s23 := s2.trans s3
        generalize upd (upd H' b (.tup [])) a (.tup [.str (Str.ofString "chain"), .ref b]) = H1 at *
        refine ⟨_, _, dp_of _ _ (f3.fz (fz_same s23)), dp_of _ _ et, told_sh hcp.1 hcp.2, told_sh cnE.1 cnE.2, _, rfl, ?_⟩
        rw [eqv_told]
        by_cases he : ps[i] = .chain []
        · rw [decide_eq_true he]
          refine iteF ?_
          refine ⟨_, _, rfl, s'.trans s23, ws, s23 _ _ hg, ?_⟩
          rw [e6, hm, he, fK_none rfl, List.append_nil, ← hm]
          exact hws.fz (fz_same s23)
        · rw [decide_eq_false he]
          refine iteT ?_
          exact app _ H1 (fun σ H' q => q) s23 (fK_other jk hk (.inr he))
      · rw [decide_eq_false (fun z => hm (kwK_inj z))]
        refine iteT ?_
        refine iteT ?_
        exact app _ H' (fun σ H' q => q) (Same.refl _) (fK_other jk hk (.inl hm))
  · rintro σ H' ⟨u4, u5, rfl, s', ws, hg, hws⟩
    rw [hvl, List.take_length] at hws
    have g0 := gl ps.length
    rw [List.take_length] at g0
    have hcx : ∀ q ∈ ps.flatMap (fK kd), Cn q ∧ dp q ≤ 20 := fun q hq => by
      obtain ⟨p, hp, hq2⟩ := List.mem_flatMap.mp hq
      exact fK_cn (hcn p hp).1 (hcn p hp).2 q hq2
    have je := join_end jk ps
    generalize ps.flatMap (fK kd) = xs at *
    obtain ⟨hwl, hwg⟩ := tolds_get hws
    have tail : ∀ (D : Ends) (H2 : Hp) (g2 : Addr) (ys : List Pat) (zs : List V), D.rt = Q → Same H H2 → H2 g2 = some (.lst zs) → ToldsAt H2 ys zs → joinK kd ps = endK kd ys → ys.length ≤ 3000 →
        tSeq (tIfS (tAnd (tTest (tOp rEq (tVar 0) (tC (.str (Str.ofString "mixed"))))) (tTest (tOp rEq (tCB (fun xs H Q => ∃ p ys, xs = [.ref p] ∧ (SqL K H p ys ∨ SqT K H p ys) ∧ Q (.int ys.length) H) (tCons (tVar 2) tNil)) (tC (.int 0))))) (tRet (tTup (tCons (tC (.str (Str.ofString "chain"))) (tCons (tTup tNil) tNil)))) tNext)
          (tSeq (tIfS (tTest (tOp rEq (tCB (fun xs H Q => ∃ p ys, xs = [.ref p] ∧ (SqL K H p ys ∨ SqT K H p ys) ∧ Q (.int ys.length) H) (tCons (tVar 2) tNil)) (tC (.int 1)))) (tRet (tOp (rIxL K) (tVar 2) (tC (.int 0)))) tNext)
            (tRet (tTup (tCons (tVar 0) (tCons (tCB (fun xs H Q => ∃ p ys, xs = [.ref p] ∧ ((SqL K H p ys ∧ ∀ l, H l = none → Q (.ref l) (upd H l (.tup ys))) ∨ (SqT K H p ys ∧ Q (.ref p) H))) (tCons (tVar 2) tNil)) tNil))))) D [some (V.str (kwK kd)), some (.ref l), some (.ref g2), u4, u5] H2 := fun D H2 g2 ys zs hD s2 hg2 hz ej hlen => by
      obtain ⟨hzl, hzg⟩ := tolds_get hz
      have fin : ys.length ≠ 1 → (kd = .mixed → ys ≠ []) → tRet (tTup (tCons (tVar 0) (tCons (tCB (fun xs H Q => ∃ p ys, xs = [.ref p] ∧ ((SqL K H p ys ∧ ∀ l, H l = none → Q (.ref l) (upd H l (.tup ys))) ∨ (SqT K H p ys ∧ Q (.ref p) H))) (tCons (tVar 2) tNil)) tNil))) D [some (V.str (kwK kd)), some (.ref l), some (.ref g2), u4, u5] H2 := fun h1 h2 => by
        refine ⟨_, rfl, _, rfl, g2, _, rfl, .inl ⟨SqL.of hg2, fun t ht0 => ⟨(by show 2 ≤ sizeLine; decide), fun a ha0 => ?_⟩⟩⟩
        have s3 : Same H2 (upd H2 t (.tup zs)) := same_new ht0 _
        have s4 : Same (upd H2 t (.tup zs)) (upd (upd H2 t (.tup zs)) a (.tup [.str (kwK kd), .ref t])) := same_new ha0 _
        rw [hD]
        refine k _ _ (s2.trans (s3.trans s4)) ?_
        rw [ej, end_many jk h1 h2, DAt]
        refine ⟨a, _, rfl, upd_same, ?_⟩
        rw [DAts, DAts, DAts, DAt, DAt]
        exact ⟨rfl, ⟨t, zs, rfl, s4 _ _ upd_same, hz.fz (fz_same (s3.trans s4))⟩, trivial⟩
      have two : (kd = .mixed → ys ≠ []) → tSeq (tIfS (tTest (tOp rEq (tCB (fun xs H Q => ∃ p ys, xs = [.ref p] ∧ (SqL K H p ys ∨ SqT K H p ys) ∧ Q (.int ys.length) H) (tCons (tVar 2) tNil)) (tC (.int 1)))) (tRet (tOp (rIxL K) (tVar 2) (tC (.int 0)))) tNext)
            (tRet (tTup (tCons (tVar 0) (tCons (tCB (fun xs H Q => ∃ p ys, xs = [.ref p] ∧ ((SqL K H p ys ∧ ∀ l, H l = none → Q (.ref l) (upd H l (.tup ys))) ∨ (SqT K H p ys ∧ Q (.ref p) H))) (tCons (tVar 2) tNil)) tNil)))) D [some (V.str (kwK kd)), some (.ref l), some (.ref g2), u4, u5] H2 := fun h2 => by
        refine ⟨_, rfl, g2, _, rfl, .inl (SqL.of hg2), rfl, _, rfl, ?_⟩
        rw [dec_int]
        by_cases h1 : ys.length = 1
        · rw [show (((zs.length : Nat) : Int) == 1) = true from by rw [beq_iff_eq]; omega]
          refine iteT ?_
          obtain ⟨x, ex⟩ := List.length_eq_one_iff.mp h1
          subst ex
          obtain ⟨v, q1, q2⟩ := hzg 0 x rfl
          refine ⟨_, rfl, g2, _, _, _, rfl, rfl, SqL.of hg2, atI_nat (j := 0) q1, ?_⟩
          show D.rt v H2
          rw [hD]
          refine k _ _ s2 ?_
          rw [ej, end_one jk]
          exact q2
        · rw [show (((zs.length : Nat) : Int) == 1) = false from by rw [beq_eq_false_iff_ne]; omega]
          refine iteF ?_
          exact fin h1 h2
      refine ⟨_, rfl, rfl, _, rfl, ?_⟩
      rw [show (Str.ofString "mixed") = kwK .mixed from rfl, dec_str]
      by_cases hm : kd = .mixed
      · rw [decide_eq_true (by rw [hm])]
        refine iteT ?_
        refine ⟨_, rfl, g2, _, rfl, .inl (SqL.of hg2), rfl, _, rfl, ?_⟩
        rw [dec_int]
        by_cases h0 : ys = []
        · subst h0
          rw [show (((zs.length : Nat) : Int) == 0) = true from by rw [beq_iff_eq, hzl]; rfl]
          refine iteT ?_
          refine ⟨(by show 0 ≤ sizeLine; decide), fun b hb0 => ⟨(by show 2 ≤ sizeLine; decide), fun a ha0 => ?_⟩⟩
          have s3 : Same H2 (upd H2 b (.tup [])) := same_new hb0 _
          have s4 : Same (upd H2 b (.tup [])) (upd (upd H2 b (.tup [])) a (.tup [.str (Str.ofString "chain"), .ref b])) := same_new ha0 _
          show D.rt _ _
          rw [hD]
          refine k _ _ (s2.trans (s3.trans s4)) ?_
          rw [ej, hm]
          exact empty_told upd_same (s4 _ _ upd_same)
        · rw [show (((zs.length : Nat) : Int) == 0) = false from by
            rw [beq_eq_false_iff_ne]
            have := List.length_pos_iff.mpr h0
            omega]
          refine iteF ?_
          exact two fun _ => h0
      · rw [decide_eq_false (fun z => hm (kwK_inj z))]
        refine iteF ?_
        refine iteF ?_
        exact two fun z => absurd z hm
    refine ⟨_, rfl, rfl, _, rfl, ?_⟩
    rw [show (Str.ofString "choice") = kwK .choice from rfl, dec_str]
    by_cases hch : kd = .choice
    · rw [decide_eq_true (by rw [hch])]
      refine iteT ?_
      rw [if_pos hch] at je
      refine ⟨_, rfl, g, _, rfl, .inl (SqL.of hg), (ws.length : Int), rfl, by omega, by omega, fun D hD => ?_⟩
      refine rd_lcT (n := (ws.length : Int).toNat) walk_range yfn_eq (fun j acc H2 => Same H' H2 ∧ ToldsAt H2 (once (xs.take j)) acc) ⟨same_new hD _, by unfold ToldsAt; rw [List.take_zero, once_nil]; simp [toldDs, DAts]⟩ (fun _ _ _ _ => True.intro) (fun j x H2 acc Ct Cf hj y ⟨s2, ea⟩ hacc hal kt kf => ?_) (fun H2 acc ⟨s2, ea⟩ hacc hal => ?_)
      · rw [Int.toNat_natCast] at hj
        have ey : x = .int (j : Int) := by
          rw [y.2]
          show V.int (0 + (j : Int)) = _
          rw [Int.zero_add]
        subst ey
        have hjx : j < xs.length := by omega
        have ex : xs[j]? = some xs[j] := List.getElem?_eq_getElem hjx
        obtain ⟨v, f1, f2⟩ := hwg j _ ex
        have hcj := hcx _ (List.getElem_mem hjx)
        refine ⟨_, rfl, _, rfl, g, _, _, _, rfl, rfl, SqL.of (s2 _ _ hg), atI_nat f1, _, rfl, _, rfl, _, rfl, g, _, rfl, SqL.of (s2 _ _ hg), fun q hq0 => ?_⟩
        rw [cut_to]
        have s3 : Same H2 (upd H2 q (.lst (ws.take j))) := same_new hq0 _
        have s23 := s2.trans s3
        have et : ToldsAt (upd H2 q (.lst (ws.take j))) (xs.take j) (ws.take j) := by
          refine dats_of (by rw [toldDs_map, List.length_map, List.length_take, List.length_take, hwl]) fun i d u h1 h2 => ?_
          rw [toldDs_map, List.getElem?_map] at h1
          obtain ⟨p, p1, p2⟩ := Option.map_eq_some_iff.mp h1
          have hij : i < j := by
            have := (List.getElem?_eq_some_iff.mp p1).1
            rw [List.length_take] at this
            omega
          rw [List.getElem?_take_of_lt hij] at p1 h2
          obtain ⟨v', w1, w2⟩ := hwg i p p1
          rw [w1] at h2
          cases h2
          subst p2
          exact w2.fz (fz_same s23)
        refine ⟨_, _, dp_of _ _ (f2.fz (fz_same s23)), .lst (SqL.of upd_same) (told_all et), told_sh hcj.1 hcj.2, list_sh fun p hp => hcx p (List.mem_of_mem_take hp), _, rfl, ?_⟩
        rw [any_told]
        have eo := once_snoc (xs.take j) xs[j]
        rw [← take_snoc ex] at eo
        have mo : xs[j] ∈ once (xs.take j) ↔ xs[j] ∈ xs.take j := mem_once _
        have haccq : (upd H2 q (.lst (ws.take j))) D = some (.lst acc) := s3 _ _ hacc
        by_cases hin : xs[j] ∈ xs.take j
        · rw [decide_eq_true hin]
          refine iteF ?_
          refine kf _ haccq ⟨s23, ?_⟩
          rw [eo, if_pos (mo.mpr hin)]
          exact ea.fz (fz_same s3)
        · rw [decide_eq_false hin]
          refine iteT ?_
          refine ⟨_, rfl, _, rfl, g, _, _, _, rfl, rfl, SqL.of (s23 _ _ hg), atI_nat f1, ?_⟩
          have z : Fz (upd H2 q (.lst (ws.take j))) (upd (upd H2 q (.lst (ws.take j))) D (.lst (acc ++ [v]))) := fz_updL haccq
          refine kt _ _ haccq (by rw [sizeLine_eq]; omega) ⟨fun b o e => by rw [upd_ne (ne_of_none e hD)]; exact s23 _ _ e, ?_⟩
          rw [eo, if_neg (fun z => hin (mo.mp z))]
          exact tolds_app (ea.fz ((fz_same s3).trans z)) (tolds_one (f2.fz ((fz_same s23).trans z)))
      · rw [Int.toNat_natCast, hwl, List.take_length] at ea
        exact tail _ H2 D (once xs) acc rfl (s'.trans s2) hacc ea je (Nat.le_trans (once_len xs) g0)
    · rw [decide_eq_false (fun z => hch (kwK_inj z))]
      refine iteF ?_
      rw [if_neg hch] at je
      exact tail _ H' g xs ws rfl s' hg hws je g0
end
end KG
end
section
set_option Elab.async false
set_option linter.all false
set_option autoImplicit false
set_option maxRecDepth 100000
set_option maxHeartbeats 4000000
/-! ## How great the drawn patterns are -/
namespace KG
open PySem PySem.Spec PyProof.Rows L2 KM
open Classical
section
variable {m : Pat → Nat} {ms : List Pat → Nat}
theorem once_sub : ∀ xs : List Pat, (once xs).Sublist xs := by
  refine snoc_ind (by rw [once_nil]; exact .slnil) fun l a ih => ?_
  rw [once_snoc]
  split
  · exact ih.trans (List.sublist_append_left l [a])
  · exact ih.append (List.Sublist.refl _)
theorem add_sub (h0 : ms [] = 0) (h1 : ∀ p ps, ms (p :: ps) = m p + 1 + ms ps) {xs ys : List Pat} (h : xs.Sublist ys) : ms xs ≤ ms ys := by
  induction h with
  | slnil => exact Nat.le_refl _
  | cons a _ ih => rw [h1]; omega
  | cons_cons a _ ih => rw [h1, h1]; omega
theorem add_app (h0 : ms [] = 0) (h1 : ∀ p ps, ms (p :: ps) = m p + 1 + ms ps) (xs ys : List Pat) : ms (xs ++ ys) = ms xs + ms ys := by
  induction xs with
  | nil => rw [h0]; simp
  | cons x xs ih => rw [List.cons_append, h1, h1, ih]; omega
theorem add_join (h0 : ms [] = 0) (h1 : ∀ p ps, ms (p :: ps) = m p + 1 + ms ps) (hc : ∀ ps, m (.chain ps) = ms ps + 3) (ho : ∀ ps, m (.choice ps) = ms ps + 3) (hm : ∀ ps, m (.mixed ps) = ms ps + 3) {k : Kd} (j : Jk k) (ps : List Pat) : m (joinK k ps) ≤ ms ps + 3 := by
  have hf : ∀ p, ms (fK k p) ≤ m p + 1 := fun p => by
    have one : ms [p] ≤ m p + 1 := by rw [h1, h0]; omega
    rcases j with j | j | j <;> subst j
    · cases p with
      | chain ps => show ms ps ≤ _; rw [hc]; omega
      | _ => exact one
    · cases p with
      | mixed ps => show ms ps ≤ _; rw [hm]; omega
      | chain ps =>
        cases ps with
        | nil => show ms [] ≤ _; rw [h0]; omega
        | cons x xs => exact one
      | _ => exact one
    · cases p with
      | choice ps => show ms ps ≤ _; rw [ho]; omega
      | _ => exact one
  have hfl : ∀ qs : List Pat, ms (qs.flatMap (fK k)) ≤ ms qs := fun qs => by
    induction qs with
    | nil => exact Nat.le_refl _
    | cons q qs ih => rw [List.flatMap_cons, add_app h0 h1, h1]; have := hf q; omega
  have he : ∀ xs : List Pat, m (endK k xs) ≤ ms xs + 3 := fun xs => by
    rcases j with j | j | j <;> subst j
    · match xs with
      | [] => show m (.chain []) ≤ _; rw [hc]; omega
      | [x] => show m x ≤ _; rw [h1, h0]; omega
      | x :: y :: xs => show m (.chain _) ≤ _; rw [hc]; omega
    · match xs with
      | [] => show m (.chain []) ≤ _; rw [hc]; omega
      | [x] => show m x ≤ _; rw [h1, h0]; omega
      | x :: y :: xs => show m (.mixed _) ≤ _; rw [hm]; omega
    · match xs with
      | [] => show m (.choice []) ≤ _; rw [ho]; omega
      | [x] => show m x ≤ _; rw [h1, h0]; omega
      | x :: y :: xs => show m (.choice _) ≤ _; rw [ho]; omega
  rw [join_end j]
  refine Nat.le_trans (he _) (Nat.add_le_add_right ?_ 3)
  split
  · exact Nat.le_trans (add_sub h0 h1 (once_sub _)) (hfl ps)
  · exact hfl ps
theorem max_sub (h0 : ms [] = 0) (h1 : ∀ p ps, ms (p :: ps) = max (m p) (ms ps)) {xs ys : List Pat} (h : xs.Sublist ys) : ms xs ≤ ms ys := by
  induction h with
  | slnil => exact Nat.le_refl _
  | cons a _ ih => rw [h1]; omega
  | cons_cons a _ ih => rw [h1, h1]; omega
theorem max_app (h0 : ms [] = 0) (h1 : ∀ p ps, ms (p :: ps) = max (m p) (ms ps)) (xs ys : List Pat) : ms (xs ++ ys) = max (ms xs) (ms ys) := by
  induction xs with
  | nil => rw [h0]; simp
  | cons x xs ih => rw [List.cons_append, h1, h1, ih]; omega
theorem max_join (h0 : ms [] = 0) (h1 : ∀ p ps, ms (p :: ps) = max (m p) (ms ps)) (hc : ∀ ps, m (.chain ps) = ms ps + 1) (ho : ∀ ps, m (.choice ps) = ms ps + 1) (hm : ∀ ps, m (.mixed ps) = ms ps + 1) {k : Kd} (j : Jk k) (ps : List Pat) : m (joinK k ps) ≤ ms ps + 1 := by
  have hf : ∀ p, ms (fK k p) ≤ m p := fun p => by
    have one : ms [p] ≤ m p := by rw [h1, h0]; omega
    rcases j with j | j | j <;> subst j
    · cases p with
      | chain ps => show ms ps ≤ _; rw [hc]; omega
      | _ => exact one
    · cases p with
      | mixed ps => show ms ps ≤ _; rw [hm]; omega
      | chain ps =>
        cases ps with
        | nil => show ms [] ≤ _; rw [h0]; omega
        | cons x xs => exact one
      | _ => exact one
    · cases p with
      | choice ps => show ms ps ≤ _; rw [ho]; omega
      | _ => exact one
  have hfl : ∀ qs : List Pat, ms (qs.flatMap (fK k)) ≤ ms qs := fun qs => by
    induction qs with
    | nil => exact Nat.le_refl _
    | cons q qs ih => rw [List.flatMap_cons, max_app h0 h1, h1]; have := hf q; omega
  have he : ∀ xs : List Pat, m (endK k xs) ≤ ms xs + 1 := fun xs => by
    rcases j with j | j | j <;> subst j
    · match xs with
      | [] => show m (.chain []) ≤ _; rw [hc]; omega
      | [x] => show m x ≤ _; rw [h1, h0]; omega
      | x :: y :: xs => show m (.chain _) ≤ _; rw [hc]; omega
    · match xs with
      | [] => show m (.chain []) ≤ _; rw [hc]; omega
      | [x] => show m x ≤ _; rw [h1, h0]; omega
      | x :: y :: xs => show m (.mixed _) ≤ _; rw [hm]; omega
    · match xs with
      | [] => show m (.choice []) ≤ _; rw [ho]; omega
      | [x] => show m x ≤ _; rw [h1, h0]; omega
      | x :: y :: xs => show m (.choice _) ≤ _; rw [ho]; omega
  rw [join_end j]
  refine Nat.le_trans (he _) (Nat.add_le_add_right ?_ 1)
  split
  · exact Nat.le_trans (max_sub h0 h1 (once_sub _)) (hfl ps)
  · exact hfl ps
end
theorem sz_join {k : Kd} (j : Jk k) (ps : List Pat) : sz (joinK k ps) ≤ szs ps + 3 := add_join (m := sz) (ms := szs) (by rw [szs]) (fun p ps => by rw [szs]) (fun ps => by rw [sz]) (fun ps => by rw [sz]) (fun ps => by rw [sz]) j ps
theorem sD_join {k : Kd} (j : Jk k) (ps : List Pat) : sD (joinK k ps) ≤ sDs ps + 3 := add_join (m := sD) (ms := sDs) (by rw [sDs]) (fun p ps => by rw [sDs]) (fun ps => by rw [sD]) (fun ps => by rw [sD]) (fun ps => by rw [sD]) j ps
theorem eD_join {k : Kd} (j : Jk k) (ps : List Pat) : eD (joinK k ps) ≤ eDs ps + 3 := add_join (m := eD) (ms := eDs) (by rw [eDs]) (fun p ps => by rw [eDs]) (fun ps => by rw [eD]) (fun ps => by rw [eD]) (fun ps => by rw [eD]) j ps
theorem dp_join {k : Kd} (j : Jk k) (ps : List Pat) : dp (joinK k ps) ≤ dps ps + 1 := max_join (m := dp) (ms := dps) (by rw [dps]) (fun p ps => by rw [dps]) (fun ps => by rw [dp]) (fun ps => by rw [dp]) (fun ps => by rw [dp]) j ps
theorem fD_join {k : Kd} (j : Jk k) (ps : List Pat) : fD (joinK k ps) ≤ fDs ps + 1 := max_join (m := fD) (ms := fDs) (by rw [fDs]) (fun p ps => by rw [fDs]) (fun ps => by rw [fD]) (fun ps => by rw [fD]) (fun ps => by rw [fD]) j ps
theorem Ws_sub {xs ys : List Pat} (h : xs.Sublist ys) : Ws xs ≤ Ws ys := by
  induction h with
  | slnil => exact Nat.le_refl _
  | cons a _ ih => rw [Ws]; omega
  | cons_cons a _ ih => rw [Ws, Ws]; omega
theorem W_pos : ∀ p, Cn p → 1 ≤ W p := fun p h => by
  have h1 := (closed p h).1
  have h2 := D_len p
  have := List.length_pos_of_mem h1
  omega
/-- two parts joined -/
theorem W_join {k : Kd} (j : Jk k) {p q : Pat} : W (joinK k [p, q]) ≤ max (W p + W q + 1) (W p * W q) := by
  have add : ∀ (f : Pat → List Pat), (∀ p, Ws (f p) ≤ W p) → Ws ([p, q].flatMap f) ≤ W p + W q := fun f hf => by
    show Ws (f p ++ (f q ++ [])) ≤ _
    rw [List.append_nil, Ws_append]
    have := hf p
    have := hf q
    omega
  rcases j with j | j | j <;> subst j
  · have h1 := add parts fun p => by
      cases p with
      | chain ps => show Ws ps ≤ _; rw [W]; omega
      | _ => show Ws [_] ≤ _; rw [Ws, Ws]; omega
    show W (mk (fl [p, q])) ≤ _
    have h2 : W (mk (fl [p, q])) ≤ Ws (fl [p, q]) + 1 := by
      generalize fl [p, q] = xs
      match xs with
      | [] => show W (.chain []) ≤ _; rw [W]; omega
      | [x] => show W x ≤ _; rw [Ws, Ws]; omega
      | x :: y :: xs => show W (.chain _) ≤ _; rw [W]; omega
    have h3 : Ws (fl [p, q]) ≤ W p + W q := h1
    omega
  · have hf : ∀ p, Wp (mparts p) ≤ W p := fun p => by
      cases p with
      | mixed ps => show Wp ps ≤ _; rw [W]; exact Nat.le_refl _
      | chain ps =>
        cases ps with
        | nil => show Wp [] ≤ _; rw [Wp, W, Ws]; omega
        | cons x xs => show Wp [_] ≤ _; rw [Wp, Wp]; omega
      | _ => show Wp [_] ≤ _; rw [Wp, Wp]; omega
    have h1 : Wp (flm [p, q]) ≤ W p * W q := by
      show Wp (mparts p ++ (mparts q ++ [])) ≤ _
      rw [List.append_nil, Wp_append]
      exact Nat.mul_le_mul (hf p) (hf q)
    show W (mkm (flm [p, q])) ≤ _
    have h2 : W (mkm (flm [p, q])) ≤ Wp (flm [p, q]) := by
      generalize flm [p, q] = xs
      match xs with
      | [] => show W (.chain []) ≤ _; rw [W, Ws, Wp]; omega
      | [x] => show W x ≤ _; rw [Wp, Wp]; omega
      | x :: y :: xs => show W (.mixed _) ≤ _; rw [W]; exact Nat.le_refl _
    omega
  · have h1 := add oparts fun p => by
      cases p with
      | choice ps => show Ws ps ≤ _; rw [W]; omega
      | _ => show Ws [_] ≤ _; rw [Ws, Ws]; omega
    have h3 := Ws_sub (once_sub (flo [p, q]))
    show W (mko (once (flo [p, q]))) ≤ _
    have h2 : W (mko (once (flo [p, q]))) ≤ Ws (once (flo [p, q])) + 1 := by
      generalize once (flo [p, q]) = xs
      match xs with
      | [] => show W (.choice []) ≤ _; rw [W]; omega
      | [x] => show W x ≤ _; rw [Ws, Ws]; omega
      | x :: y :: xs => show W (.choice _) ≤ _; rw [W]; omega
    have h4 : Ws (flo [p, q]) ≤ W p + W q := h1
    omega
/-- forms -/
theorem fms_mem {f : Str} {ps : List Pat} : f ∈ fms ps ↔ ∃ p ∈ ps, f ∈ fm p := by
  induction ps with
  | nil => rw [fms]; simp
  | cons p ps ih => rw [fms, List.mem_append, ih]; simp
theorem fms_sub {xs ys : List Pat} (h : xs.Sublist ys) : (fms xs).length ≤ (fms ys).length := by
  induction h with
  | slnil => exact Nat.le_refl _
  | cons a _ ih => rw [fms, List.length_append]; omega
  | cons_cons a _ ih => rw [fms, fms, List.length_append, List.length_append]; omega
theorem fm_join {k : Kd} (j : Jk k) (ps : List Pat) : (fm (joinK k ps)).length ≤ (fms ps).length ∧ ∀ f ∈ fm (joinK k ps), f ∈ fms ps := by
  have hf : ∀ p, fms (fK k p) = fm p := fun p => by
    have one : fms [p] = fm p := by rw [fms, fms, List.append_nil]
    rcases j with j | j | j <;> subst j
    · cases p with
      | chain ps => rw [fm]; rfl
      | _ => exact one
    · cases p with
      | mixed ps => rw [fm]; rfl
      | chain ps =>
        cases ps with
        | nil => rw [fm]; rfl
        | cons x xs => exact one
      | _ => exact one
    · cases p with
      | choice ps => rw [fm]; rfl
      | _ => exact one
  have hfl : ∀ qs : List Pat, fms (qs.flatMap (fK k)) = fms qs := fun qs => by
    induction qs with
    | nil => rfl
    | cons q qs ih => rw [List.flatMap_cons, fms_append, fms, hf, ih]
  have he : ∀ xs : List Pat, fm (endK k xs) = fms xs := fun xs => by
    have one : ∀ x, fm x = fms [x] := fun x => by rw [fms, fms, List.append_nil]
    rcases j with j | j | j <;> subst j
    · match xs with
      | [] => show fm (.chain []) = _; rw [fm]
      | [x] => exact one x
      | x :: y :: xs => show fm (.chain _) = _; rw [fm]
    · match xs with
      | [] => show fm (.chain []) = _; rw [fm]
      | [x] => exact one x
      | x :: y :: xs => show fm (.mixed _) = _; rw [fm]
    · match xs with
      | [] => show fm (.choice []) = _; rw [fm]
      | [x] => exact one x
      | x :: y :: xs => show fm (.choice _) = _; rw [fm]
  rw [join_end j, he]
  split
  · have := fms_sub (once_sub (ps.flatMap (fK k)))
    rw [hfl] at this
    refine ⟨this, fun f h => ?_⟩
    rw [← hfl]
    obtain ⟨p, hp, h2⟩ := fms_mem.mp h
    exact fms_mem.mpr ⟨p, (mem_once _).mp hp, h2⟩
  · rw [hfl]
    exact ⟨Nat.le_refl _, fun f h => h⟩
theorem cn_join {k : Kd} (j : Jk k) {p : Pat} {ps : List Pat} (h : ∀ q ∈ p :: ps, Cn q) : Cn (joinK k (p :: ps)) := by
  rcases j with j | j | j <;> subst j
  · exact cn_chain' h
  · exact cn_mixed' h
  · refine cn_choice' h ?_
    show oparts p ++ flo ps ≠ []
    have hp := h p List.mem_cons_self
    intro z
    have z1 := (List.append_eq_nil_iff.mp z).1
    cases p with
    | choice qs =>
      rw [Cn] at hp
      have : qs = [] := z1
      rw [this] at hp
      simp at hp
    | _ => cases z1
/-- leaves told: the bounds -/
structure PB (n : Nat) (known : List Str) (p : Pat) : Prop where
  cn : Cn p
  w : W p ≤ (if n ≤ 1 then 7 else if n ≤ 2 then 148 else 3109)
  z : sz p ≤ (if n ≤ 1 then 23 else if n ≤ 2 then 63 else 103)
  s : sD p ≤ (if n ≤ 1 then 39 else if n ≤ 2 then 151 else 303)
  e : eD p ≤ (if n ≤ 1 then 55 else if n ≤ 2 then 271 else 639)
  f : fD p ≤ 4 * n
  d : dp p ≤ 2 * n
  m : (fm p).length ≤ n
  k : ∀ x ∈ fm p, x ∈ known
end KG
end
section
set_option Elab.async false
set_option linter.all false
set_option autoImplicit false
set_option maxRecDepth 100000
set_option maxHeartbeats 4000000
/-! ## _law_part -/
namespace KG
open PySem PySem.Spec PyProof.Rows L2 KM
open C8 (Cal Met Mak pe_c pe_mk pe_mt pe_mt0)
/-- a word between two statements -/
def tCut (t u : L2.TS) : L2.TS := fun D σ H => ∃ P : L2.St → Hp → Prop, t { D with nx := P } σ H ∧ ∀ σ' H', P σ' H' → u D σ' H'
theorem pss_cut {X : Cx} {st : Stmt} {rest : List Stmt} {t u : L2.TS} (h1 : PS X st t) (h2 : PSs X rest u) : PSs X (st :: rest) (tCut t u) := by
  refine ⟨fun pins s σ H D I h => ?_⟩
  obtain ⟨P, ht, hu⟩ := h
  refine wpAny_execs_cons (thn (h1.run pins s σ H { D with nx := P } I ht) fun f s1 q => ?_)
  cases f with
  | next =>
    obtain ⟨σ', H', I', q⟩ := q
    exact h2.run pins s1 σ' H' D I' (hu σ' H' q)
  | ret v => exact q
  | brk => exact q
  | cont => exact q
structure QB (n : Nat) (known : List Str) (p : Pat) : Prop where
  cn : Cn p
  w : W p ≤ (if n ≤ 1 then 2 else if n ≤ 2 then 49 else 1036)
  z : sz p ≤ (if n ≤ 1 then 11 else if n ≤ 2 then 51 else 91)
  s : sD p ≤ (if n ≤ 1 then 11 else if n ≤ 2 then 83 else 195)
  e : eD p ≤ (if n ≤ 1 then 11 else if n ≤ 2 then 115 else 331)
  f : fD p + 3 ≤ 4 * n
  d : dp p + 1 ≤ 2 * n
  m : (fm p).length ≤ n
  k : ∀ x ∈ fm p, x ∈ known
theorem QB.pb {n : Nat} {known : List Str} {p : Pat} (h : QB n known p) : PB n known p := by
  obtain ⟨a, b, c, d, e, f, g, i, j⟩ := h
  refine ⟨a, ?_, ?_, ?_, ?_, by omega, by omega, i, j⟩
  all_goals (by_cases h1 : n ≤ 1 <;> by_cases h2 : n ≤ 2 <;> simp only [h1, h2, if_true, if_false] at * <;> omega)
theorem W_times' (p : Pat) (lo : Nat) (hi : Option Nat) (h : cn lo hi ≤ 3) (hp : 1 ≤ W p) : W (times' p lo hi) ≤ 1 + 3 * W p := by
  unfold times'
  split
  · rw [W, Ws]; omega
  · split
    · omega
    · rw [W]; have := Nat.mul_le_mul_right (W p) h; omega
theorem eD_times' (p : Pat) (lo : Nat) (hi : Option Nat) : eD (times' p lo hi) ≤ eD p + sD p + sz p + 22 := by
  unfold times'
  split
  · rw [eD, eDs]; omega
  · split
    · omega
    · rw [eD]; omega
theorem fD_times' (p : Pat) (lo : Nat) (hi : Option Nat) : fD (times' p lo hi) ≤ fD p + 3 := by
  unfold times'
  split
  · rw [fD, fDs]; omega
  · split
    · omega
    · rw [fD]; omega
theorem fm_times' (p : Pat) (lo : Nat) (hi : Option Nat) : (fm (times' p lo hi)).length ≤ (fm p).length ∧ ∀ f ∈ fm (times' p lo hi), f ∈ fm p := by
  unfold times'
  split
  · rw [fm, fms]; exact ⟨Nat.zero_le _, fun f h => by cases h⟩
  · split
    · exact ⟨Nat.le_refl _, fun f h => h⟩
    · rw [fm]; exact ⟨Nat.le_refl _, fun f h => h⟩
theorem QB.times {n : Nat} {known : List Str} {p : Pat} (h : QB n known p) {lo : Nat} {hi : Option Nat} (hc : KM.cn lo hi ≤ 3) (ck : CntOk lo hi) : PB n known (times' p lo hi) := by
  obtain ⟨a, b, c, d, e, f, g, i, j⟩ := h
  have h1 := W_times' p lo hi hc (W_pos p a)
  have h2 := sz_times' p lo hi
  have h3 := sD_times' p lo hi
  have h4 := eD_times' p lo hi
  have h5 := fD_times' p lo hi
  have h6 := dp_times' p lo hi
  obtain ⟨h7, h8⟩ := fm_times' p lo hi
  refine ⟨cn_times' a ck, ?_, ?_, ?_, ?_, by omega, by omega, by omega, fun x hx => j x (h8 x hx)⟩
  all_goals (by_cases k1 : n ≤ 1 <;> by_cases k2 : n ≤ 2 <;> simp only [k1, k2, if_true, if_false] at * <;> omega)
theorem QB.one {n : Nat} {known : List Str} {f : Str} (hn : 1 ≤ n) (h : NameOk f) (hk : f ∈ known) : QB n known (.one f) := by
  have h8 := h.2.1
  refine ⟨by rw [Cn]; exact h, ?_, ?_, ?_, ?_, by rw [fD]; omega, by rw [dp]; omega, by rw [fm]; simp; omega, fun x hx => by rw [fm] at hx; rw [List.mem_singleton.mp hx]; exact hk⟩
  · rw [W]; split; · omega
    split <;> omega
  · rw [sz]; split; · omega
    split <;> omega
  · rw [sD]; split; · omega
    split <;> omega
  · rw [eD]; split; · omega
    split <;> omega
theorem PB.empty {n : Nat} {known : List Str} (hn : 1 ≤ n) : PB n known (.chain []) := by
  refine ⟨cn_empty, ?_, ?_, ?_, ?_, by rw [fD, fDs]; omega, by rw [dp, dps]; omega, by rw [fm, fms]; simp, fun x hx => by rw [fm, fms] at hx; cases hx⟩
  · rw [W, Ws]; split; · omega
    split <;> omega
  · rw [sz, szs]; split; · omega
    split <;> omega
  · rw [sD, sDs]; split; · omega
    split <;> omega
  · rw [eD, eDs]; split; · omega
    split <;> omega
theorem PB.join {a b n : Nat} {known : List Str} {p q : Pat} {k : Kd} (j : Jk k) (hp : PB a known p) (hq : PB b known q) (ha : 1 ≤ a) (hb : 1 ≤ b) (hn : a + b = n) (h3 : n ≤ 3) : QB n known (joinK k [p, q]) := by
  have h1 := W_join j (p := p) (q := q)
  have h2 := sz_join j [p, q]
  have h3' := sD_join j [p, q]
  have h4 := eD_join j [p, q]
  have h5 := fD_join j [p, q]
  have h6 := dp_join j [p, q]
  obtain ⟨h7, h8⟩ := fm_join j [p, q]
  rw [szs, szs, szs] at h2
  rw [sDs, sDs, sDs] at h3'
  rw [eDs, eDs, eDs] at h4
  rw [fDs, fDs, fDs] at h5
  rw [dps, dps, dps] at h6
  rw [fms, fms, fms, List.append_nil, List.length_append] at h7
  obtain ⟨a1, a2, a3, a4, a5, a6, a7, a8, a9⟩ := hp
  obtain ⟨b1, b2, b3, b4, b5, b6, b7, b8, b9⟩ := hq
  have hmul : W p * W q ≤ (if n ≤ 2 then 49 else 1036) := by
    have : (a = 1 ∧ b = 1) ∨ (a = 1 ∧ b = 2) ∨ (a = 2 ∧ b = 1) := by omega
    rcases this with ⟨e1, e2⟩ | ⟨e1, e2⟩ | ⟨e1, e2⟩
    · subst e1 e2
      have : n = 2 := by omega
      subst this
      exact Nat.mul_le_mul (show W p ≤ 7 from a2) (show W q ≤ 7 from b2)
    · subst e1 e2
      have : n = 3 := by omega
      subst this
      exact Nat.mul_le_mul (show W p ≤ 7 from a2) (show W q ≤ 148 from b2)
    · subst e1 e2
      have : n = 3 := by omega
      subst this
      exact Nat.mul_le_mul (show W p ≤ 148 from a2) (show W q ≤ 7 from b2)
  refine ⟨cn_join j fun x hx => ?_, ?_, ?_, ?_, ?_, by omega, by omega, by omega, fun x hx => ?_⟩
  · rcases List.mem_cons.mp hx with e | hx
    · rw [e]; exact a1
    · rw [List.mem_singleton.mp hx]; exact b1
  · have : (a = 1 ∧ b = 1) ∨ (a = 1 ∧ b = 2) ∨ (a = 2 ∧ b = 1) := by omega
    rcases this with ⟨e1, e2⟩ | ⟨e1, e2⟩ | ⟨e1, e2⟩ <;> subst e1 e2 hn <;> simp at * <;> omega
  · have : (a = 1 ∧ b = 1) ∨ (a = 1 ∧ b = 2) ∨ (a = 2 ∧ b = 1) := by omega
    rcases this with ⟨e1, e2⟩ | ⟨e1, e2⟩ | ⟨e1, e2⟩ <;> subst e1 e2 hn <;> simp at * <;> omega
  · have : (a = 1 ∧ b = 1) ∨ (a = 1 ∧ b = 2) ∨ (a = 2 ∧ b = 1) := by omega
    rcases this with ⟨e1, e2⟩ | ⟨e1, e2⟩ | ⟨e1, e2⟩ <;> subst e1 e2 hn <;> simp at * <;> omega
  · have : (a = 1 ∧ b = 1) ∨ (a = 1 ∧ b = 2) ∨ (a = 2 ∧ b = 1) := by omega
    rcases this with ⟨e1, e2⟩ | ⟨e1, e2⟩ | ⟨e1, e2⟩ <;> subst e1 e2 hn <;> simp at * <;> omega
  · have := h8 x hx
    rw [fms, fms, fms, List.append_nil] at this
    rcases List.mem_append.mp this with h | h
    · exact a9 x h
    · exact b9 x h
end KG
end
section
set_option Elab.async false
set_option linter.all false
set_option autoImplicit false
set_option maxRecDepth 100000
set_option maxHeartbeats 4000000
/-! ## _law_part -/
namespace KG
open PySem PySem.Spec PyProof.Rows L2 KM
open C8 (Cal Met Mak pe_c pe_mk pe_mt pe_mt0)
section
variable {P : Program} {w : World} {K : PySem.W.Frag} {mg : Str → Option Value} {base : Heap} {N : Nm}
def spPart (L : Nat) : Sp := sp4 fun v u z y H Q => ∃ (t : Addr) (n : Nat) (l : Addr) (known : List Str), v = .ref t ∧ u = .int n ∧ z = .ref l ∧ y = .int 3 ∧ TapeAt H t ∧ 1 ≤ n ∧ n ≤ L ∧ n ≤ 3 ∧ H l = some (.lst (known.map V.str)) ∧ l ≠ t ∧ known ≠ [] ∧ (∀ s ∈ known, NameOk s) ∧ known.length ≤ 100 ∧
  ∀ v' H' p, But t H H' → TapeAt H' t → PB n known p → DAt H' (toldD p) v' → Q v' H'
theorem scPart : FnScope ["_law_tape_here", "_law_leaves", "_law_known", "_law_most", "_law_kind", "_law_told", "_law_leaf", "_law_first", "_law_left", "_law_right", "_law_low", "_law_high", "_law_way", "_law_style"] ["_law_tape_here", "_law_leaves", "_law_known", "_law_most"] (defScope sLawPart) := ⟨rfl, rfl, rfl, by decide +kernel, rfl, by decide +kernel, by decide +kernel⟩
theorem kind4 {z : Nat} (h : (z : Int) < 4) : ∃ k, Jk k ∧ [V.str (Str.ofString "chain"), V.str (Str.ofString "mixed"), V.str (Str.ofString "choice"), V.str (Str.ofString "chain")][z]? = some (.str (kwK k)) := by
  match z, h with
  | 0, _ => exact ⟨.chain, .inl rfl, rfl⟩
  | 1, _ => exact ⟨.mixed, .inr (.inl rfl), rfl⟩
  | 2, _ => exact ⟨.choice, .inr (.inr rfl), rfl⟩
  | 3, _ => exact ⟨.chain, .inl rfl, rfl⟩
  | n + 4, h => omega
theorem ok_part (T : Tx K mg N) : ∀ L : Nat, Cal P w K mg base (L + 2) "_law_part" (spPart L) []
  | 0 => by
    obtain ⟨f, fd, F, m⟩ := T.d_law_part.ex
    have no : ∀ vs H Q E, ¬ spPart 0 vs H Q E := fun vs H Q E ⟨_, _, _, _, _, t, n, l, kn, _, _, _, _, _, h1, h2, _⟩ => by omega
    exact ⟨f, fd, ["_law_tape_here", "_law_leaves", "_law_known", "_law_most"], [], ⟨fun vs H Q E h => absurd h (no vs H Q E), fun A outer s H args us vs Q E _ _ _ _ h => absurd h (no vs H Q E)⟩, m, F.kp, F.bindsN (fun _ _ _ _ _ _ us hl => match us, hl with | [_, _, _, _], _ => rfl), .nil⟩
  | L + 1 => by
    have ih := ok_part T L
    refine T.d_law_part.cal scPart (fun _ _ _ _ _ _ us hl => match us, hl with | [_, _, _, _], _ => rfl) len4 (fun f cdv A outer s H vs Q E hr h => ?_)
    obtain ⟨_, _, _, _, rfl, t, n, l, known, rfl, rfl, rfl, rfl, ht, hn1, hnL, hn3, hl, hlt, hne, hok, hkl, k⟩ := h
    have nx := fun {X : Cx} => True.intro
    refine ⟨_, pss_cons (ps_set (i := 4) scPart.nd rfl (Or.inl rfl) (pe_c (ok_next T) hr (by omega) rfl (pa_cons (pv 0) (pa_cons pe_int pa_nil))))
      (pss_cons (ps_if (pt_cmpR op_eq (pv 4) pe_int (nomark _)) (pss_one (ps_ret (pe_tup (pa_cons pe_str (pa_cons (pe_tup pa_nil) pa_nil))))) pss_nil)
      (pss_cons (ps_set (i := 5) scPart.nd rfl (Or.inl rfl) (pe_tup (pa_cons pe_str (pa_cons (pe_ix ix_list (pv 2) (pe_c (ok_next T) hr (by omega) rfl (pa_cons (pv 0) (pa_cons (pe_callB call_len_seq (by rfl) T.z_len PySem.boot_len (pa_cons (pv 2) pa_nil)) pa_nil))) (fun _ _ => rfl)) pa_nil))))
      (pss_cut (ps_set (i := 6) scPart.nd rfl (Or.inl rfl) (pe_or (pe_cmpR op_lt (pv 1) pe_int (nomark _)) (pe_one (pe_cmpR op_eq (pe_op op_mod (pv 4) pe_int) pe_int (nomark _)))))
      (pss_cut (ps_if (pt_not (pt_val (pv 6)))
        (pss_cons (ps_set (i := 7) scPart.nd rfl (Or.inl rfl) (pe_op op_add pe_int (pe_c (ok_next T) hr (by omega) rfl (pa_cons (pv 0) (pa_cons (pe_op op_sub (pv 1) pe_int) pa_nil)))))
        (pss_cons (ps_set (i := 8) scPart.nd rfl (Or.inl rfl) (pe_c ih hr (by omega) rfl (pa_cons (pv 0) (pa_cons (pv 7) (pa_cons (pv 2) (pa_cons (pv 3) pa_nil))))))
        (pss_cons (ps_set (i := 9) scPart.nd rfl (Or.inl rfl) (pe_c ih hr (by omega) rfl (pa_cons (pv 0) (pa_cons (pe_op op_sub (pv 1) (pv 7)) (pa_cons (pv 2) (pa_cons (pv 3) pa_nil))))))
        (pss_one (ps_set (i := 5) scPart.nd rfl (Or.inl rfl) (pe_c (ok_join T) hr (by omega) rfl (pa_cons (pe_ix ix_list (pe_lst (pa_cons pe_str (pa_cons pe_str (pa_cons pe_str (pa_cons pe_str pa_nil))))) (pe_c (ok_next T) hr (by omega) rfl (pa_cons (pv 0) (pa_cons pe_int pa_nil))) (fun _ _ => rfl)) (pa_cons (pe_lst (pa_cons (pv 8) (pa_cons (pv 9) pa_nil))) pa_nil))))))))
        pss_nil)
      (pss_cons (ps_set (i := 10) scPart.nd rfl (Or.inl rfl) (pe_c (ok_next T) hr (by omega) rfl (pa_cons (pv 0) (pa_cons (pv 3) pa_nil))))
      (pss_cons (ps_set (i := 11) scPart.nd rfl (Or.inl rfl) (pe_op op_add (pv 10) (pe_c (ok_next T) hr (by omega) rfl (pa_cons (pv 0) (pa_cons pe_int pa_nil)))))
      (pss_cut (ps_if (pt_not (pt_val (pv 6)))
        (pss_cons (ps_set (i := 10) scPart.nd rfl (Or.inl rfl) (pe_op op_mod (pv 10) pe_int))
        (pss_one (ps_set (i := 11) scPart.nd rfl (Or.inl rfl) (pe_op op_add (pv 10) (pe_c (ok_next T) hr (by omega) rfl (pa_cons (pv 0) (pa_cons (pe_op op_sub pe_int (pv 10)) pa_nil)))))))
        pss_nil)
      (pss_cons (ps_set (i := 12) scPart.nd rfl (Or.inl rfl) (pe_c (ok_next T) hr (by omega) rfl (pa_cons (pv 0) (pa_cons pe_int pa_nil))))
      (pss_cons (ps_set (i := 13) scPart.nd rfl (Or.inl rfl) (pe_c (ok_next T) hr (by omega) rfl (pa_cons (pv 0) (pa_cons pe_int pa_nil))))
      (pss_cons (ps_if (pt_cmpR op_lt (pv 12) pe_int (nomark _)) (pss_one (ps_ret (pv 5))) pss_nil)
      (pss_cons (ps_if (pt_cmpR op_lt (pv 12) pe_int (nomark _)) (pss_one (ps_ret (pe_c (ok_so_many T) hr (by omega) rfl (pa_cons (pv 5) (pa_cons pe_int (pa_cons (pe_ix ix_list (pe_lst (pa_cons (pe_un un_neg pe_int) (pa_cons (pe_un un_neg pe_int) (pa_cons pe_int pa_nil)))) (pv 13) (fun _ _ => rfl)) pa_nil)))))) pss_nil)
      (pss_one (ps_ret (pe_c (ok_so_many T) hr (by omega) rfl (pa_cons (pv 5) (pa_cons (pv 10) (pa_cons (pe_ix ix_list (pe_lst (pa_cons (pv 11) (pa_cons (pe_un un_neg pe_int) (pa_cons (pv 11) pa_nil)))) (pv 13) (fun _ _ => rfl)) pa_nil))))))))))))))))), ?_⟩
    -- READ
    have hlS : (known.map V.str).length = known.length := List.length_map ..
    have hpos : 0 < known.length := List.length_pos_iff.mpr hne
    refine ⟨_, rfl, _, _, rfl, t, 12, rfl, rfl, ht, by decide, fun kd H1 hk1 b1 t1 => ?_⟩
    refine ⟨_, rfl, rfl, _, rfl, ?_⟩
    refine ite2 (fun _ => ?_) (fun _ => ?_)
    · refine ⟨(by show 0 ≤ sizeLine; decide), fun b hb0 => ⟨(by show 2 ≤ sizeLine; decide), fun a ha0 => ?_⟩⟩
      have s2 : Same H1 (upd H1 b (.tup [])) := same_new hb0 _
      have s3 : Same (upd H1 b (.tup [])) (upd (upd H1 b (.tup [])) a (.tup [.str (Str.ofString "chain"), .ref b])) := same_new ha0 _
      exact k _ _ (.chain []) (b1.trans (but_same (s2.trans s3))) (t1.same (s2.trans s3)) (PB.empty hn1) (empty_told upd_same (s3 _ _ upd_same))
    refine ⟨_, rfl, _, rfl, _, rfl, l, _, rfl, .inl (SqL.of (b1 _ _ hlt hl)), _, _, rfl, t, _, rfl, rfl, t1, by rw [hlS]; omega, fun z2 H2 hz2 b2 t2 => ?_⟩
    have b12 := b1.trans b2
    rw [hlS] at hz2
    have hz2' : z2 < known.length := by omega
    refine ⟨l, _, _, _, rfl, rfl, SqL.of (b12 _ _ hlt hl), atI_nat (j := z2) (v := .str known[z2]) (by rw [List.getElem?_map, List.getElem?_eq_getElem hz2']; rfl), (by show 2 ≤ sizeLine; decide), fun a3 ha3 => ?_⟩
    have s3 : Same H2 (upd H2 a3 (.tup [.str (Str.ofString "one"), .str known[z2]])) := same_new ha3 _
    have d3 : DAt (upd H2 a3 (.tup [.str (Str.ofString "one"), .str known[z2]])) (toldD (.one known[z2])) (.ref a3) := by
      rw [toldD, DAt]
      refine ⟨a3, _, rfl, upd_same, ?_⟩
      rw [DAts, DAts, DAts, DAt, DAt]
      exact ⟨rfl, rfl, trivial⟩
    have b3 := b12.trans (but_same (t := t) s3)
    have t3 := t2.same s3
    have q3 : QB n known (.one known[z2]) := QB.one hn1 (hok _ (List.getElem_mem hz2')) (List.getElem_mem hz2')
    generalize upd H2 a3 (.tup [.str (Str.ofString "one"), .str known[z2]]) = H3 at *
    -- leaf
    refine ⟨fun σ H' => H' = H3 ∧ ∃ lf : Bool, (lf = false → 2 ≤ n) ∧ σ = [some (.ref t), some (.int n), some (.ref l), some (.int 3), some (.int kd), some (.ref a3), some (.bl lf), none, none, none, none, none, none, none], ?_, ?_⟩
    · refine ⟨_, rfl, _, _, rfl, rfl, _, rfl, ?_⟩
      by_cases h2 : n < 2
      · rw [decide_eq_true (by omega)]
        refine iteT ?_
        exact ⟨rfl, true, fun z => (by cases z), rfl⟩
      · rw [decide_eq_false (by omega)]
        refine iteF ?_
        refine ⟨_, rfl, _, _, rfl, rfl, (by show (0 : Int) < 3; decide), rfl, ?_⟩
        exact ⟨rfl, _, fun _ => by omega, rfl⟩
    rintro σ H' ⟨rfl, lf, hlf, rfl⟩
    refine ⟨fun σ H' => ∃ (told : V) (p : Pat) (u7 u8 u9 : Option V), σ = [some (.ref t), some (.int n), some (.ref l), some (.int 3), some (.int kd), some told, some (.bl lf), u7, u8, u9, none, none, none, none] ∧ But t H H' ∧ TapeAt H' t ∧ QB n known p ∧ DAt H' (toldD p) told, ?_, ?_⟩
    · refine ⟨_, rfl, _, rfl, ?_⟩
      cases lf with
      | true =>
        refine iteF ?_
        exact ⟨_, _, _, _, _, rfl, b3, t3, q3, d3⟩
      | false =>
        refine iteT ?_
        have hn2 := hlf rfl
        refine ⟨_, rfl, _, rfl, _, _, rfl, rfl, _, _, rfl, t, _, rfl, rfl, t3, by omega, fun z4 H4 hz4 b4 t4 => ⟨_, _, rfl, rfl, ?_⟩⟩
        have hz4' : z4 + 1 < n := by omega
        have b4' := b3.trans b4
        refine ⟨_, rfl, _, rfl, _, rfl, _, rfl, _, _, _, _, rfl, t, 1 + z4, l, known, rfl, congrArg V.int (by omega), rfl, rfl, t4, by omega, by omega, by omega, b4' _ _ hlt hl, hlt, hne, hok, hkl, fun vl H5 pl b5 t5 pb5 d5 => ?_⟩
        have b5' := b4'.trans b5
        refine ⟨_, rfl, _, rfl, _, rfl, _, _, rfl, rfl, _, rfl, _, rfl, _, _, _, _, rfl, t, n - (1 + z4), l, known, rfl, congrArg V.int (by omega), rfl, rfl, t5, by omega, by omega, by omega, b5' _ _ hlt hl, hlt, hne, hok, hkl, fun vr H6 pr b6 t6 pb6 d6 => ?_⟩
        have b6' := b5'.trans b6
        refine ⟨(by show 4 ≤ sizeLine; decide), fun l0 hl0 => ?_⟩
        have s7 : Same H6 (upd H6 l0 (.lst [.str (Str.ofString "chain"), .str (Str.ofString "mixed"), .str (Str.ofString "choice"), .str (Str.ofString "chain")])) := same_new hl0 _
        have e7 : upd H6 l0 (.lst [.str (Str.ofString "chain"), .str (Str.ofString "mixed"), .str (Str.ofString "choice"), .str (Str.ofString "chain")]) l0 = some (.lst [.str (Str.ofString "chain"), .str (Str.ofString "mixed"), .str (Str.ofString "choice"), .str (Str.ofString "chain")]) := upd_same
        have nl0 : l0 ≠ t := fun z => by
          obtain ⟨ns, e⟩ := t6
          rw [z, e] at hl0
          cases hl0
        generalize upd H6 l0 (.lst [.str (Str.ofString "chain"), .str (Str.ofString "mixed"), .str (Str.ofString "choice"), .str (Str.ofString "chain")]) = H7 at *
        refine ⟨_, rfl, _, _, rfl, t, 4, rfl, rfl, t6.same s7, by decide, fun z8 H8 hz8 b8 t8 => ?_⟩
        obtain ⟨jk, hjk, ejk⟩ := kind4 hz8
        refine ⟨l0, _, _, _, rfl, rfl, SqL.of (b8 _ _ nl0 e7), atI_nat ejk, _, rfl, _, rfl, (by show 2 ≤ sizeLine; decide), fun l9 hl9 => ?_⟩
        have s9 : Same H8 (upd H8 l9 (.lst [vl, vr])) := same_new hl9 _
        have z58 : Fz H5 H8 := (b6.fzT t5).trans ((fz_same s7).trans (b8.fzT (t6.same s7)))
        have z68 : Fz H6 H8 := (fz_same s7).trans (b8.fzT (t6.same s7))
        have b9 := b6'.trans ((but_same s7).trans (b8.trans (but_same s9)))
        have q9 := PB.join hjk pb5 pb6 (by omega) (by omega) (show (1 + z4) + (n - (1 + z4)) = n by omega) hn3
        have cz : ∀ x ∈ [pl, pr], Cn x ∧ dp x ≤ 20 := fun x hx => by
          rcases List.mem_cons.mp hx with e | hx
          · rw [e]; exact ⟨pb5.cn, by have := pb5.d; omega⟩
          · rw [List.mem_singleton.mp hx]; exact ⟨pb6.cn, by have := pb6.d; omega⟩
        have sz3 : ∀ m (x : Pat), PB m known x → sz x ≤ 103 := fun m x h => by
          have := h.z
          split at this
          · omega
          · split at this <;> omega
        have hs5 := sz3 _ _ pb5
        have hs6 := sz3 _ _ pb6
        refine ⟨_, _, rfl, jk, l9, [pl, pr], [vl, vr], rfl, rfl, hjk, upd_same, tolds_app (tolds_one ((d5.fz z58).fz (fz_same s9))) (tolds_one ((d6.fz z68).fz (fz_same s9))), cz, by rw [szs, szs, szs]; omega, fun v' H' s' d' => ?_⟩
        exact ⟨v', _, _, _, _, rfl, b9.trans (but_same s'), (t8.same s9).same s', q9, d'⟩
    rintro σ H' ⟨told, p, u7, u8, u9, rfl, bt, tt, qb, dt⟩
    refine ⟨_, rfl, _, rfl, _, _, rfl, t, 3, rfl, rfl, tt, by decide, fun lo0 H5 hlo0 b5 t5 => ?_⟩
    refine ⟨_, rfl, _, rfl, _, _, rfl, t, 2, rfl, rfl, t5, by decide, fun hi0 H6 hhi0 b6 t6 => ⟨_, _, rfl, rfl, ?_⟩⟩
    have b56 := b5.trans b6
    refine ⟨fun σ H' => ∃ (lo hi : Nat), σ = [some (.ref t), some (.int n), some (.ref l), some (.int 3), some (.int kd), some told, some (.bl lf), u7, u8, u9, some (.int lo), some (.int hi), none, none] ∧ But t H H' ∧ TapeAt H' t ∧ DAt H' (toldD p) told ∧ lo ≤ 2 ∧ lo ≤ hi ∧ hi ≤ 3, ?_, ?_⟩
    · refine ⟨_, rfl, _, rfl, ?_⟩
      cases lf with
      | true =>
        refine iteF ?_
        refine ⟨lo0, lo0 + hi0, ?_, bt.trans b56, t6, dt.fz (b56.fzT tt), by omega, by omega, by omega⟩
        show [_, _, _, _, _, _, _, _, _, _, some (V.int (lo0 : Int)), some (V.int ((lo0 : Int) + hi0)), _, _] = _
        rw [← Int.natCast_add]
      | false =>
        refine iteT ?_
        refine ⟨_, rfl, _, _, rfl, rfl, (by show (0 : Int) < 2; decide), ?_⟩
        refine ⟨_, rfl, _, rfl, _, rfl, _, _, rfl, rfl, _, _, rfl, t, _, rfl, rfl, t6, by omega, fun z7 H7 hz7 b7 t7 => ⟨_, _, rfl, rfl, ?_⟩⟩
        refine ⟨lo0 % 2, lo0 % 2 + z7, ?_, bt.trans (b56.trans b7), t7, dt.fz ((b56.trans b7).fzT tt), by omega, by omega, by omega⟩
        show [_, _, _, _, _, _, _, _, _, _, some (V.int ((lo0 : Int) % 2)), some (V.int ((lo0 : Int) % 2 + z7)), _, _] = _
        rw [show ((lo0 : Int) % 2 + z7) = ((lo0 % 2 + z7 : Nat) : Int) from by omega, show ((lo0 : Int) % 2) = ((lo0 % 2 : Nat) : Int) from by omega]
    clear bt tt dt b56 b5 b6 t5 t6
    rintro σ H' ⟨lo, hi, rfl, bt, tt, dt, h1, h2, h3⟩
    refine ⟨_, rfl, _, _, rfl, t, 7, rfl, rfl, tt, by decide, fun way H5 hw b5 t5 => ?_⟩
    refine ⟨_, rfl, _, _, rfl, t, 3, rfl, rfl, t5, by decide, fun sty H6 hst b6 t6 => ?_⟩
    have b56 := b5.trans b6
    have bt6 := bt.trans b56
    have dt6 := dt.fz (b56.fzT tt)
    have hd20 : dp p ≤ 20 := by have := qb.d; omega
    refine ⟨_, rfl, _, _, rfl, rfl, _, rfl, ?_⟩
    refine ite2 (fun _ => ?_) (fun _ => ?_)
    · exact ⟨_, rfl, k _ _ p bt6 t6 qb.pb dt6⟩
    refine ⟨_, rfl, _, _, rfl, rfl, _, rfl, ?_⟩
    have fin : ∀ (lo' : Nat) (hi' : Option Nat) (H8 : Hp), Same H6 H8 → KM.cn lo' hi' ≤ 3 → CntOk lo' hi' → spSoMany [told, .int lo', .int (hiI hi')] H8 Q C8.E0 := fun lo' hi' H8 s8 c1 c2 =>
      ⟨_, _, _, rfl, p, lo', hi', rfl, rfl, dt6.fz (fz_same s8), qb.cn, hd20, fun v' H9 s9 d9 => k v' H9 _ (bt6.trans (but_same (s8.trans s9))) (t6.same (s8.trans s9)) (qb.times c1 c2) d9⟩
    have hst' : sty < 3 := by omega
    refine ite2 (fun _ => ?_) (fun _ => ?_)
    · refine ⟨_, rfl, _, rfl, _, rfl, (by show 3 ≤ sizeLine; decide), fun l8 hl8 => ?_⟩
      have s8 : Same H6 (upd H6 l8 (.lst [.int (-1), .int (-1), .int 1])) := same_new hl8 _
      match sty, hst' with
      | 0, _ => exact ⟨_, rfl, l8, _, _, _, rfl, rfl, SqL.of upd_same, atI_nat (j := 0) rfl, fin 0 none _ s8 (by decide) ⟨by omega, fun h e => by cases e⟩⟩
      | 1, _ => exact ⟨_, rfl, l8, _, _, _, rfl, rfl, SqL.of upd_same, atI_nat (j := 1) rfl, fin 0 none _ s8 (by decide) ⟨by omega, fun h e => by cases e⟩⟩
      | 2, _ => exact ⟨_, rfl, l8, _, _, _, rfl, rfl, SqL.of upd_same, atI_nat (j := 2) rfl, fin 0 (some 1) _ s8 (by decide) ⟨by omega, fun h e => by cases e; omega⟩⟩
      | _ + 3, h => omega
    · refine ⟨_, rfl, _, rfl, _, rfl, _, rfl, _, rfl, (by show 3 ≤ sizeLine; decide), fun l8 hl8 => ?_⟩
      have s8 : Same H6 (upd H6 l8 (.lst [.int hi, .int (-1), .int hi])) := same_new hl8 _
      have c1 : KM.cn lo (some hi) ≤ 3 := by rw [KM.cn]; omega
      have c2 : CntOk lo (some hi) := ⟨by omega, fun h e => by cases e; omega⟩
      match sty, hst' with
      | 0, _ => exact ⟨_, rfl, l8, _, _, _, rfl, rfl, SqL.of upd_same, atI_nat (j := 0) rfl, fin lo (some hi) _ s8 c1 c2⟩
      | 1, _ => exact ⟨_, rfl, l8, _, _, _, rfl, rfl, SqL.of upd_same, atI_nat (j := 1) rfl, fin lo none _ s8 (by rw [KM.cn]; omega) ⟨by omega, fun h e => by cases e⟩⟩
      | 2, _ => exact ⟨_, rfl, l8, _, _, _, rfl, rfl, SqL.of upd_same, atI_nat (j := 2) rfl, fin lo (some hi) _ s8 c1 c2⟩
      | _ + 3, h => omega
end
end KG
end
section
set_option Elab.async false
set_option linter.all false
set_option autoImplicit false
set_option maxRecDepth 100000
set_option maxHeartbeats 4000000
/-! ## _law_names -/
namespace KG
open PySem PySem.Spec PyProof.Rows L2 KM
open C8 (Cal Met Mak pe_c pe_mk pe_mt pe_mt0)
def ltr (n : Nat) : Nat := 97 + n % 26
def abc : Str := "abcdefghijklmnopqrstuvwxyz"
theorem abc_at : ∀ n : Fin 26, abc.cps.toList[n.val]? = some (97 + n.val) := by decide +kernel
theorem abc_len : abc.length = 26 := by decide +kernel
theorem at_ltr {i : Int} (h0 : 0 ≤ i) (h1 : i < 26) : atI abc.cps.toList i = some (97 + i.toNat) := by
  obtain ⟨n, rfl⟩ := Int.eq_ofNat_of_zero_le h0
  have := abc_at ⟨n, by omega⟩
  exact atI_nat this
theorem low_ltr (n : Nat) : isLow (ltr n) := by unfold isLow ltr; omega
def base8 (s : Nat) : List Nat := (List.range 8).map fun k => ltr (s + 3 * k)
theorem base8_len (s : Nat) : (base8 s).length = 8 := by unfold base8; simp
theorem base8_low (s : Nat) : ∀ c ∈ base8 s, isLow c := fun c hc => by
  obtain ⟨k, _, e⟩ := List.mem_map.mp hc
  rw [← e]; exact low_ltr _
theorem ok_S {l : List Nat} (h1 : 1 ≤ l.length) (h2 : l.length ≤ 8) (h3 : ∀ c ∈ l, isLow c) : NameOk (SX.S l) := ⟨by simpa using h1, by simpa using h2, fun c hc => h3 c (by simpa using hc)⟩
theorem nodup_range {α : Type} {f : Nat → α} : ∀ n : Nat, (∀ i j, i < n → j < n → f i = f j → i = j) → ((List.range n).map f).Nodup
  | 0, _ => by simp
  | n + 1, h => by
    rw [List.range_succ, List.map_append, List.nodup_append]
    refine ⟨nodup_range n fun i j hi hj e => h i j (by omega) (by omega) e, by simp, fun a ha b hb => ?_⟩
    obtain ⟨i, hi, e1⟩ := List.mem_map.mp ha
    rw [List.map_singleton, List.mem_singleton] at hb
    intro e
    rw [← e1, hb] at e
    have := h i n (by have := List.mem_range.mp hi; omega) (by omega) e
    have := List.mem_range.mp hi
    omega
/-- the three kinds of nine names -/
def nm0 (s a f : Nat) : List Str := (List.range 9).map fun k => SX.S ((base8 s).take a ++ ltr (f + k) :: (base8 s).drop (a + 1))
def nm1 (s : Nat) : List Str := (List.range 8).map (fun k => SX.S ((base8 s).take (k + 1))) ++ [SX.S ((base8 s).drop 1)]
def nm2 (s : Nat) : List Str := (List.range 9).map fun k => SX.S [ltr (s + 5 * k)]
structure NamesOk (ns : List Str) : Prop where
  len : ns.length = 9
  nd : ns.Nodup
  ok : ∀ s ∈ ns, NameOk s
theorem ok_nm0 {s a f : Nat} (ha : a < 8) : NamesOk (nm0 s a f) := by
  have hb := base8_len s
  refine ⟨by unfold nm0; simp, nodup_range 9 fun i j hi hj e => ?_, fun x hx => ?_⟩
  · have e1 := SX.S_inj e
    have e2 := List.append_cancel_left e1
    injection e2 with e3 _
    unfold ltr at e3
    omega
  · obtain ⟨k, _, e⟩ := List.mem_map.mp hx
    rw [← e]
    refine ok_S (by rw [List.length_append, List.length_cons]; omega) (by rw [List.length_append, List.length_cons, List.length_take, List.length_drop, hb]; omega) fun c hc => ?_
    rcases List.mem_append.mp hc with hc | hc
    · exact base8_low s c (List.mem_of_mem_take hc)
    · rcases List.mem_cons.mp hc with hc | hc
      · rw [hc]; exact low_ltr _
      · exact base8_low s c (List.mem_of_mem_drop hc)
theorem ok_nm1 {s : Nat} : NamesOk (nm1 s) := by
  have hb := base8_len s
  refine ⟨by unfold nm1; simp, ?_, fun x hx => ?_⟩
  · unfold nm1
    rw [List.nodup_append]
    refine ⟨nodup_range 8 fun i j hi hj e => ?_, by simp, fun a ha b hb2 => ?_⟩
    · have := congrArg List.length (SX.S_inj e)
      rw [List.length_take, List.length_take, hb] at this
      omega
    · obtain ⟨k, hk, e⟩ := List.mem_map.mp ha
      rw [List.mem_singleton] at hb2
      intro z
      rw [← e, hb2] at z
      have z2 := SX.S_inj z
      have z3 := congrArg (fun l => l[0]?) z2
      have e0 : ((base8 s).take (k + 1))[0]? = some (ltr (s + 3 * 0)) := by
        rw [List.getElem?_take_of_lt (by omega)]
        unfold base8
        rw [List.getElem?_map, List.getElem?_range (by decide)]
        rfl
      have e1 : ((base8 s).drop 1)[0]? = some (ltr (s + 3 * 1)) := by
        rw [List.getElem?_drop]
        unfold base8
        rw [List.getElem?_map, List.getElem?_range (by decide)]
        rfl
      have z4 : some (ltr (s + 3 * 0)) = some (ltr (s + 3 * 1)) := by rw [← e0, ← e1]; exact z3
      injection z4 with z4
      unfold ltr at z4
      omega
  · rcases List.mem_append.mp hx with hx | hx
    · obtain ⟨k, hk, e⟩ := List.mem_map.mp hx
      have := List.mem_range.mp hk
      rw [← e]
      exact ok_S (by rw [List.length_take, hb]; omega) (by rw [List.length_take, hb]; omega) fun c hc => base8_low s c (List.mem_of_mem_take hc)
    · rw [List.mem_singleton.mp hx]
      exact ok_S (by rw [List.length_drop, hb]; omega) (by rw [List.length_drop, hb]; omega) fun c hc => base8_low s c (List.mem_of_mem_drop hc)
theorem ok_nm2 {s : Nat} : NamesOk (nm2 s) := by
  refine ⟨by unfold nm2; simp, nodup_range 9 fun i j hi hj e => ?_, fun x hx => ?_⟩
  · have e1 := SX.S_inj e
    injection e1 with e3 _
    unfold ltr at e3
    omega
  · obtain ⟨k, _, e⟩ := List.mem_map.mp hx
    rw [← e]
    refine ok_S (by simp) (by simp) fun c hc => ?_
    rw [List.mem_singleton.mp hc]; exact low_ltr _
theorem cutS_to (l : List Nat) (n : Nat) : cutS (SX.S l) none (some (n : Int)) = SX.S (l.take n) := by
  unfold cutS
  rw [HT.sIx_nat, HT.sIx_none, SX.S_len]
  show SX.S ((l.drop 0).take (min n l.length - 0)) = _
  rw [List.drop_zero, Nat.sub_zero]
  by_cases h : n ≤ l.length
  · rw [Nat.min_eq_left h]
  · rw [Nat.min_eq_right (by omega), List.take_of_length_le (Nat.le_refl _), List.take_of_length_le (by omega)]
theorem cutS_from (l : List Nat) (n : Nat) : cutS (SX.S l) (some (n : Int)) none = SX.S (l.drop n) := by
  unfold cutS
  rw [HT.sIx_nat, HT.sIx_none, SX.S_len]
  show SX.S ((l.drop (min n l.length)).take (l.length - min n l.length)) = _
  by_cases h : n ≤ l.length
  · rw [Nat.min_eq_left h, List.take_of_length_le (by rw [List.length_drop]; omega)]
  · rw [Nat.min_eq_right (by omega), List.drop_of_length_le (Nat.le_refl _), List.drop_of_length_le (by omega)]
    simp
theorem joinL_flat : ∀ xs : List (List Nat), TL.joinL [] xs = xs.flatten
  | [] => rfl
  | [x] => by show x = _; simp
  | x :: y :: xs => by
    have ih := joinL_flat (y :: xs)
    show x ++ ([] ++ TL.joinL [] (y :: xs)) = _
    rw [ih]
    simp
section
variable {P : Program} {w : World} {K : PySem.W.Frag} {mg : Str → Option Value} {base : Heap} {N : Nm}
def spNames : Sp := sp1 fun v H Q => ∃ i : Int, v = .int i ∧ ∀ l H' ns, Same H H' → H' l = some (.lst (ns.map V.str)) → NamesOk ns → Q (.ref l) H'
theorem scNames : FnScope ["_law_cell", "_law_letters", "_law_start", "_law_base", "_law_at", "_law_first", "_law_k"] ["_law_cell"] (defScope sLawNames) := ⟨rfl, rfl, rfl, by decide +kernel, rfl, by decide +kernel, by decide +kernel⟩
theorem acc_range {acc : List V} {n : Nat} {f : Nat → V} (hl : acc.length = n) (h : ∀ j, j < n → ∃ y, acc[j]? = some y ∧ y = f j) : acc = (List.range n).map f := by
  refine list_by (by rw [hl]; simp) fun i hi => ?_
  obtain ⟨y, h1, h2⟩ := h i (by omega)
  rw [h1, h2, List.getElem?_map, List.getElem?_range (by omega)]
  rfl
theorem ok_names (T : Tx K mg N) : Cal P w K mg base 1 "_law_names" spNames [] := by
  refine T.d_law_names.cal scNames (fun _ _ _ _ _ _ us hl => match us, hl with | [_], _ => rfl) len1 (fun f cdv A outer s H vs Q E hr h => ?_)
  obtain ⟨_, rfl, i, rfl, q⟩ := h
  refine ⟨_, pss_cons (ps_set (i := 1) scNames.nd rfl (Or.inr rfl) pe_str) (pss_cons (ps_set (i := 2) scNames.nd rfl (Or.inr rfl) (pe_op op_mod (pv 0) pe_int))
    (pss_cons (ps_set (i := 3) scNames.nd rfl (Or.inr rfl) (pe_join pe_str (pe_lc (own := [("_law_k", 6)]) (g := gName 6) (tt := tYes) rfl scNames.nd (pi_range1 (by rfl) T.z_range (pa_cons pe_int pa_nil)) (blkOk_by (N := ["_law_cell", "_law_letters", "_law_start", "_law_base", "_law_at", "_law_first", "_law_k"]) (sc := defScope sLawNames) (by decide +kernel))
        (fun _ _ _ _ _ => pg_name (i := 6) scNames.nd rfl (Or.inl rfl)) (fun _ _ _ _ _ => pts_nil) (fun _ _ _ _ _ => pe_ix ix_str (pv 1) (pe_op op_mod (pe_op op_add (pv 2) (pe_op op_mul pe_int (pv 6))) pe_int) (fun _ _ => rfl)))))
    (pss_cons (ps_if (pt_cmpR op_eq (pe_op op_mod (pe_op op_fdiv (pv 0) pe_int) pe_int) pe_int (nomark _))
      (pss_cons (ps_set (i := 4) scNames.nd rfl (Or.inr rfl) (pe_op op_mod (pe_op op_fdiv (pv 0) pe_int) pe_int)) (pss_cons (ps_set (i := 5) scNames.nd rfl (Or.inr rfl) (pe_op op_mod (pe_op op_fdiv (pv 0) pe_int) pe_int))
        (pss_one (ps_ret (pe_lc (own := [("_law_k", 6)]) (g := gName 6) (tt := tYes) rfl scNames.nd (pi_range1 (by rfl) T.z_range (pa_cons pe_int pa_nil)) (blkOk_by (N := ["_law_cell", "_law_letters", "_law_start", "_law_base", "_law_at", "_law_first", "_law_k"]) (sc := defScope sLawNames) (by decide +kernel))
          (fun _ _ _ _ _ => pg_name (i := 6) scNames.nd rfl (Or.inl rfl)) (fun _ _ _ _ _ => pts_nil) (fun _ _ _ _ _ => pe_op op_add_str (pe_op op_add_str (pe_slice sl_str (pv 3) po_none (po_some (pv 4))) (pe_ix ix_str (pv 1) (pe_op op_mod (pe_op op_add (pv 5) (pv 6)) pe_int) (fun _ _ => rfl))) (pe_slice sl_str (pv 3) (po_some (pe_op op_add (pv 4) pe_int)) po_none))))))) pss_nil)
    (pss_cons (ps_if (pt_cmpR op_eq (pe_op op_mod (pe_op op_fdiv (pv 0) pe_int) pe_int) pe_int (nomark _))
      (pss_one (ps_ret (pe_op op_cat (pe_lc (own := [("_law_k", 6)]) (g := gName 6) (tt := tYes) rfl scNames.nd (pi_range1 (by rfl) T.z_range (pa_cons pe_int pa_nil)) (blkOk_by (N := ["_law_cell", "_law_letters", "_law_start", "_law_base", "_law_at", "_law_first", "_law_k"]) (sc := defScope sLawNames) (by decide +kernel))
          (fun _ _ _ _ _ => pg_name (i := 6) scNames.nd rfl (Or.inl rfl)) (fun _ _ _ _ _ => pts_nil) (fun _ _ _ _ _ => pe_slice sl_str (pv 3) po_none (po_some (pe_op op_add (pv 6) pe_int)))) (pe_lst (pa_cons (pe_slice sl_str (pv 3) (po_some pe_int) po_none) pa_nil))))) pss_nil)
    (pss_one (ps_ret (pe_lc (own := [("_law_k", 6)]) (g := gName 6) (tt := tYes) rfl scNames.nd (pi_range1 (by rfl) T.z_range (pa_cons pe_int pa_nil)) (blkOk_by (N := ["_law_cell", "_law_letters", "_law_start", "_law_base", "_law_at", "_law_first", "_law_k"]) (sc := defScope sLawNames) (by decide +kernel))
          (fun _ _ _ _ _ => pg_name (i := 6) scNames.nd rfl (Or.inl rfl)) (fun _ _ _ _ _ => pts_nil) (fun _ _ _ _ _ => pe_ix ix_str (pv 1) (pe_op op_mod (pe_op op_add (pv 2) (pe_op op_mul pe_int (pv 6))) pe_int) (fun _ _ => rfl))))))))), ?_⟩
  have h26 := Int.emod_nonneg i (show (26 : Int) ≠ 0 by decide)
  have h26b := Int.emod_lt_of_pos i (show (0 : Int) < 26 by decide)
  obtain ⟨s0, hs0⟩ := Int.eq_ofNat_of_zero_le h26
  refine ⟨_, rfl, _, _, rfl, rfl, (by show (0 : Int) < 26; decide), ?_⟩
  show tSeq _ _ _ [some (V.int i), some (V.str abc), some (V.int (i % 26)), none, none, none, none] H
  rw [hs0]
  have habc : abc.length ≤ sizeLine := by rw [abc_len, sizeLine_eq]; omega
  have ltrs : ∀ (z : Int) (n : Nat), z = (n : Int) → V.str ⟨#[97 + (z % 26).toNat]⟩ = V.str (SX.S [ltr n]) := fun z n e => by
    subst e
    show V.str (SX.S [97 + ((n : Int) % 26).toNat]) = V.str (SX.S [97 + n % 26])
    rw [show ((n : Int) % 26).toNat = n % 26 from by omega]
  have ltat : ∀ z : Int, atI abc.cps.toList (z % 26) = some (97 + (z % 26).toNat) := fun z => at_ltr (Int.emod_nonneg z (by decide)) (Int.emod_lt_of_pos z (by decide))
  have rng : ∀ {x : V} {j : Nat} {H1 H2 : Hp}, YFn (fun i => V.int (0 + (i : Int))) j H1 x H2 → x = .int (j : Int) := fun y => by
    rw [y.2]
    show V.int (0 + _) = _
    rw [Int.zero_add]
  refine ⟨⟨_, rfl⟩, 8, rfl, by decide, by decide, fun D hD => ?_⟩
  refine rd_lc (n := (8 : Int).toNat) walk_range yfn_eq hD (by decide) (fun j y H' => y = .str (SX.S [ltr (s0 + 3 * j)])) (fun j y H1 H2 z q => q) (fun _ _ => True.intro) (fun j x H' C hj y s' k' => ?_) (fun H1 acc s1 hacc hl hf => ?_)
  · have ex := rng y
    subst ex
    refine ⟨_, rfl, _, rfl, _, rfl, _, _, rfl, rfl, .inl ⟨by decide, by decide⟩, _, _, rfl, rfl, _, _, rfl, rfl, (by show (0 : Int) < 26; decide), abc, _, _, rfl, rfl, habc, ltat _, ?_⟩
    exact k' _ H' (Same.refl _) (ltrs _ _ (by omega))
  have eacc := acc_range (f := fun j => V.str (SX.S [ltr (s0 + 3 * j)])) hl (fun j hj => by obtain ⟨y, h1, h2⟩ := hf j hj; exact ⟨y, h1, h2⟩)
  have em : acc = (((List.range 8).map fun j => [ltr (s0 + 3 * j)]).map SX.S).map V.str := by
    rw [eacc, List.map_map, List.map_map]; rfl
  have ej : Txt.join (SX.S []) (((List.range 8).map fun j => [ltr (s0 + 3 * j)]).map SX.S) = SX.S (base8 s0) := by
    rw [SX.join_S, joinL_flat]
    rfl
  have e0 : Str.ofString "" = SX.S [] := by decide +kernel
  refine ⟨_, D, ((List.range 8).map fun j => [ltr (s0 + 3 * j)]).map SX.S, rfl, rfl, .inl (SqL.of (by rw [← em]; exact hacc)), (by rw [e0]; simp [List.range_succ, SX.S_len]), ?_⟩
  rw [e0, ej]
  have hb8 : (SX.S (base8 s0)).length ≤ sizeLine := by rw [SX.S_len, base8_len, sizeLine_eq]; omega
  -- 0
  refine ⟨_, rfl, _, _, rfl, rfl, ⟨by decide, by decide⟩, _, _, rfl, rfl, (by show (0 : Int) < 3; decide), rfl, _, rfl, ?_⟩
  refine ite2 (fun _ => ?_) (fun _ => ?_)
  · refine ⟨_, rfl, _, _, rfl, rfl, ⟨by decide, by decide⟩, _, _, rfl, rfl, (by show (0 : Int) < 8; decide), ?_⟩
    refine ⟨_, rfl, _, _, rfl, rfl, ⟨by decide, by decide⟩, _, _, rfl, rfl, (by show (0 : Int) < 26; decide), ?_⟩
    have g1 := Int.emod_nonneg (i / 78) (show (8 : Int) ≠ 0 by decide)
    have g2 := Int.emod_lt_of_pos (i / 78) (show (0 : Int) < 8 by decide)
    have g3 := Int.emod_nonneg (i / 624) (show (26 : Int) ≠ 0 by decide)
    obtain ⟨a0, ha0⟩ := Int.eq_ofNat_of_zero_le g1
    obtain ⟨f0, hf0⟩ := Int.eq_ofNat_of_zero_le g3
    refine ⟨9, rfl, by decide, by decide, fun D2 hD2 => ?_⟩
    refine rd_lc (n := (9 : Int).toNat) walk_range yfn_eq hD2 (by decide) (fun j y H' => y = .str (SX.S ((base8 s0).take a0 ++ ltr (f0 + j) :: (base8 s0).drop (a0 + 1)))) (fun j y H1 H2 z q => q) (fun _ _ => True.intro) (fun j x H' C hj y s' k' => ?_) (fun H2 acc2 s2 hacc2 hl2 hf2 => ?_)
    · have ex := rng y
      subst ex
      have e1 : cutS (SX.S (base8 s0)) none (some (i / 78 % 8)) = SX.S ((base8 s0).take a0) := by rw [ha0]; exact cutS_to _ _
      have e2 : cutS (SX.S (base8 s0)) (some (i / 78 % 8 + 1)) none = SX.S ((base8 s0).drop (a0 + 1)) := by rw [ha0]; exact cutS_from _ (a0 + 1)
      have e3 := ltrs (i / 624 % 26 + j) (f0 + j) (by rw [hf0]; omega)
      have e4 : (⟨#[97 + ((i / 624 % 26 + j) % 26).toNat]⟩ : Str) = SX.S [ltr (f0 + j)] := by injection e3
      refine ⟨_, rfl, _, rfl, _, rfl, _, rfl, hb8, ?_⟩
      refine ⟨_, rfl, _, rfl, _, rfl, _, _, rfl, rfl, _, _, rfl, rfl, (by show (0 : Int) < 26; decide), abc, _, _, rfl, rfl, habc, ltat _, ?_⟩
      rw [e1, e4]
      refine ⟨_, _, rfl, rfl, by rw [SX.S_len, SX.S_len, List.length_take, base8_len, sizeLine_eq]; simp; omega, ?_⟩
      refine ⟨_, rfl, _, rfl, _, _, rfl, rfl, _, rfl, _, rfl, hb8, ?_⟩
      rw [e2, SX.S_cat]
      refine ⟨_, _, rfl, rfl, by rw [SX.S_len, SX.S_len, List.length_append, List.length_take, List.length_drop, base8_len, sizeLine_eq]; simp; omega, ?_⟩
      rw [SX.S_cat]
      exact k' _ H' (Same.refl _) (by rw [List.append_assoc]; rfl)
    have eacc2 := acc_range (f := fun j => V.str (SX.S ((base8 s0).take a0 ++ ltr (f0 + j) :: (base8 s0).drop (a0 + 1)))) hl2 (fun j hj => by obtain ⟨y, h1, h2⟩ := hf2 j hj; exact ⟨y, h1, h2⟩)
    refine q D2 H2 (nm0 s0 a0 f0) (s1.trans s2) ?_ (ok_nm0 (by omega))
    rw [hacc2, eacc2]
    unfold nm0
    rw [List.map_map]
    rfl
  refine ⟨_, rfl, _, _, rfl, rfl, ⟨by decide, by decide⟩, _, _, rfl, rfl, (by show (0 : Int) < 3; decide), rfl, _, rfl, ?_⟩
  refine ite2 (fun _ => ?_) (fun _ => ?_)
  · refine ⟨8, rfl, by decide, by decide, fun D2 hD2 => ?_⟩
    refine rd_lc (n := (8 : Int).toNat) walk_range yfn_eq hD2 (by decide) (fun j y H' => y = .str (SX.S ((base8 s0).take (j + 1)))) (fun j y H1 H2 z q => q) (fun _ _ => True.intro) (fun j x H' C hj y s' k' => ?_) (fun H2 acc2 s2 hacc2 hl2 hf2 => ?_)
    · have ex := rng y
      subst ex
      refine ⟨_, rfl, _, rfl, _, _, rfl, rfl, _, rfl, _, rfl, hb8, ?_⟩
      exact k' _ H' (Same.refl _) (congrArg V.str (cutS_to _ (j + 1)))
    have eacc2 := acc_range (f := fun j => V.str (SX.S ((base8 s0).take (j + 1)))) hl2 (fun j hj => by obtain ⟨y, h1, h2⟩ := hf2 j hj; exact ⟨y, h1, h2⟩)
    refine ⟨_, rfl, _, rfl, _, rfl, hb8, (by show 1 ≤ sizeLine; decide), fun l3 hl3 => ?_⟩
    have s3 : Same H2 (upd H2 l3 (.lst [.str (cutS (SX.S (base8 s0)) (some 1) none)])) := same_new hl3 _
    refine ⟨D2, l3, _, _, rfl, rfl, s3 _ _ hacc2, upd_same, by rw [hl2, sizeLine_eq]; show 8 + 1 ≤ 16777216; decide, fun p hp => ?_⟩
    refine q p _ (nm1 s0) (s1.trans (s2.trans (s3.trans (same_new hp _)))) ?_ ok_nm1
    rw [upd_same, eacc2]
    unfold nm1
    rw [List.map_append, List.map_map, show cutS (SX.S (base8 s0)) (some 1) none = SX.S ((base8 s0).drop 1) from cutS_from _ 1]
    rfl
  · refine ⟨9, rfl, by decide, by decide, fun D2 hD2 => ?_⟩
    refine rd_lc (n := (9 : Int).toNat) walk_range yfn_eq hD2 (by decide) (fun j y H' => y = .str (SX.S [ltr (s0 + 5 * j)])) (fun j y H1 H2 z q => q) (fun _ _ => True.intro) (fun j x H' C hj y s' k' => ?_) (fun H2 acc2 s2 hacc2 hl2 hf2 => ?_)
    · have ex := rng y
      subst ex
      refine ⟨_, rfl, _, rfl, _, rfl, _, _, rfl, rfl, .inl ⟨by decide, by decide⟩, _, _, rfl, rfl, _, _, rfl, rfl, (by show (0 : Int) < 26; decide), abc, _, _, rfl, rfl, habc, ltat _, ?_⟩
      exact k' _ H' (Same.refl _) (ltrs _ _ (by omega))
    have eacc2 := acc_range (f := fun j => V.str (SX.S [ltr (s0 + 5 * j)])) hl2 (fun j hj => by obtain ⟨y, h1, h2⟩ := hf2 j hj; exact ⟨y, h1, h2⟩)
    refine q D2 H2 (nm2 s0) (s1.trans s2) ?_ ok_nm2
    rw [hacc2, eacc2]
    unfold nm2
    rw [List.map_map]
    rfl
end
end KG
end
section
set_option Elab.async false
set_option linter.all false
set_option autoImplicit false
set_option maxRecDepth 100000
set_option maxHeartbeats 4000000
/-! ## _law_tags, _law_rules -/
namespace KG
open PySem PySem.Spec PyProof.Rows L2 KM
open C8 (Cal Met Mak pe_c pe_mk pe_mt pe_mt0)
def ruleD (r : Rl) : Dt := .tup [.str r.1, .str r.2.1, toldD r.2.2]
/-- the rules that are drawn -/
structure RuleSet (R : List Rl) : Prop where
  pos : 0 < R.length
  few : R.length ≤ 8
  nd : (R.map (·.1)).Nodup
  ok : ∀ r ∈ R, NameOk r.1 ∧ NameOk r.2.1 ∧ PB 3 (R.map (·.1)) r.2.2
theorem RuleSet.rulesOk {R : List Rl} (h : RuleSet R) : RulesOk R := ⟨h.few, fun r hr => by
  have pb := (h.ok r hr).2.2
  have h1 : W r.2.2 ≤ 3109 := pb.w
  have h2 : eD r.2.2 ≤ 639 := pb.e
  have h3 := pb.f
  exact ⟨pb.cn, by omega, by omega, by omega⟩⟩
theorem RuleSet.bookOk {R : List Rl} (h : RuleSet R) : BookOk R := ⟨h.pos, h.few, h.nd, fun r hr => by
  have pb := (h.ok r hr).2.2
  have h1 := pb.d
  have h2 := pb.m
  exact ⟨by omega, by omega, pb.k⟩⟩
theorem RuleSet.noBlank {R : List Rl} (h : RuleSet R) : NoBlank R := fun r hr e => by
  have := (h.ok r hr).2.1.1
  rw [e] at this
  exact absurd this (by decide +kernel)
theorem PB.mono {n : Nat} {known known' : List Str} {p : Pat} (h : PB n known p) (hn : n ≤ 3) (hk : ∀ x ∈ known, x ∈ known') : PB 3 known' p := by
  obtain ⟨a, b, c, d, e, f, g, i, j⟩ := h
  refine ⟨a, ?_, ?_, ?_, ?_, by omega, by omega, by omega, fun x hx => hk x (j x hx)⟩
  all_goals (by_cases h1 : n ≤ 1 <;> by_cases h2 : n ≤ 2 <;> simp only [h1, h2, if_true, if_false] at * <;> simp <;> omega)
section
variable {P : Program} {w : World} {K : PySem.W.Frag} {mg : Str → Option Value} {base : Heap} {N : Nm}
def spTags : Sp := sp2 fun v u H Q => ∃ (l : Addr) (pool : List Str) (i : Int), v = .ref l ∧ u = .int i ∧ H l = some (.lst (pool.map V.str)) ∧ pool.length = 9 ∧ ∀ l' H' (ts : List Str), Same H H' → H l' = none → H' l' = some (.lst (ts.map V.str)) → ts.length = 4 → (∀ s ∈ ts, s ∈ pool) → Q (.ref l') H'
theorem scTags : FnScope ["_law_pool", "_law_cell"] ["_law_pool", "_law_cell"] (defScope sLawTags) := ⟨rfl, rfl, rfl, by decide +kernel, rfl, by decide +kernel, by decide +kernel⟩
theorem ok_tags (T : Tx K mg N) : Cal P w K mg base 1 "_law_tags" spTags [] := by
  refine T.d_law_tags.cal scTags (fun _ _ _ _ _ _ us hl => match us, hl with | [_, _], _ => rfl) len2 (fun f cdv A outer s H vs Q E hr h => ?_)
  obtain ⟨_, _, rfl, l, pool, i, rfl, rfl, hl, h9, q⟩ := h
  refine ⟨_, pss_cons (ps_if (pt_cmpR op_eq (pe_op op_mod (pv 1) pe_int) pe_int (nomark _)) (pss_one (ps_ret (pe_slice sl_list (pv 0) po_none (po_some pe_int)))) pss_nil)
    (pss_one (ps_ret (pe_slice sl_list (pv 0) (po_some pe_int) po_none))), ?_⟩
  refine ⟨_, rfl, _, _, rfl, rfl, (by show (0 : Int) < 2; decide), rfl, _, rfl, ?_⟩
  refine ite2 (fun _ => ?_) (fun _ => ?_)
  · refine ⟨_, rfl, _, rfl, l, _, rfl, SqL.of hl, fun p hp => ?_⟩
    refine q p _ (pool.take 4) (same_new hp _) hp ?_ (by rw [List.length_take]; omega) fun s hs => List.mem_of_mem_take hs
    rw [upd_same, show cutV (pool.map V.str) none (some 4) = (pool.map V.str).take 4 from cut_to _ 4, List.map_take]
  · refine ⟨_, rfl, _, rfl, l, _, rfl, SqL.of hl, fun p hp => ?_⟩
    refine q p _ (pool.drop 5) (same_new hp _) hp ?_ (by rw [List.length_drop]; omega) fun s hs => List.mem_of_mem_drop hs
    rw [upd_same, show cutV (pool.map V.str) (some 5) none = (pool.map V.str).drop 5 from cut_from _ 5, List.map_drop]
def spRules (K : PySem.W.Frag) : Sp := sp4 fun v u z y H Q => ∃ (S : Addr) (ns : List Int) (pl : Addr) (pool : List Str), v = .ref S ∧ u = .int 1 ∧ z = .ref pl ∧ y = .int 3 ∧ SqL K H S (ns.map V.int) ∧ H pl = some (.lst (pool.map V.str)) ∧ NamesOk pool ∧
  ∀ l H' vs R, Same H H' → H l = none → H' l = some (.lst vs) → DAts H' (R.map ruleD) vs → RuleSet R → Q (.ref l) H'
theorem scRules : FnScope ["_law_script", "_law_start", "_law_pool", "_law_most", "_law_first", "_law_many", "_law_known", "_law_tags_here", "_law_rules_here", "_law_k", "_law_tape_here", "_law_name", "_law_empty", "_law_leaves", "_law_told"] ["_law_script", "_law_start", "_law_pool", "_law_most"] (defScope sLawRules) := ⟨rfl, rfl, rfl, by decide +kernel, rfl, by decide +kernel, by decide +kernel⟩
theorem same_but {H H1 H2 : Hp} {t : Addr} (s : Same H H1) (n : H t = none) (b : But t H1 H2) : Same H H2 := fun x o e => b x o (ne_of_none e n) (s x o e)
theorem ok_rules (T : Tx K mg N) : Cal P w K mg base 6 "_law_rules" (spRules K) [] := by
  refine T.d_law_rules.cal scRules (fun _ _ _ _ _ _ us hl => match us, hl with | [_, _, _, _], _ => rfl) len4 (fun f cdv A outer s H vs Q E hr h => ?_)
  obtain ⟨_, _, _, _, rfl, S, ns, pl, pool, rfl, rfl, rfl, rfl, hS, hpl, np, q⟩ := h
  refine ⟨_, pss_cons (ps_set (i := 4) scRules.nd rfl (Or.inl rfl) (pe_c (ok_cell T) hr (by decide) rfl (pa_cons (pv 0) (pa_cons (pv 1) pa_nil))))
    (pss_cons (ps_set (i := 5) scRules.nd rfl (Or.inl rfl) (pe_op op_add pe_int (pe_op op_mod (pv 4) pe_int)))
    (pss_cut (ps_if (pt_cmpR op_eq (pe_op op_mod (pe_op op_fdiv (pv 4) pe_int) pe_int) pe_int (nomark _)) (pss_one (ps_set (i := 5) scRules.nd rfl (Or.inl rfl) (pe_op op_add pe_int (pe_op op_mod (pe_op op_fdiv (pv 4) pe_int) pe_int)))) pss_nil)
    (pss_cons (ps_set (i := 6) scRules.nd rfl (Or.inl rfl) (pe_slice sl_list (pv 2) po_none (po_some (pv 5))))
    (pss_cons (ps_set (i := 7) scRules.nd rfl (Or.inl rfl) (pe_c (ok_tags T) hr (by decide) rfl (pa_cons (pv 2) (pa_cons (pe_op op_fdiv (pv 4) pe_int) pa_nil))))
    (pss_cons (ps_set (i := 8) scRules.nd rfl (Or.inl rfl) (pe_lst pa_nil))
    (pss_cons (ps_for PassesOwn.never rfl (pi_range1 (by rfl) T.z_range (pa_cons (pv 5) pa_nil)) (pg_name (i := 9) scRules.nd rfl (Or.inl rfl))
      (pss_cons (ps_set (i := 10) scRules.nd rfl (Or.inl rfl) (pe_c (ok_tape T) hr (by decide) rfl (pa_cons (pe_c (ok_cell T) hr (by decide) rfl (pa_cons (pv 0) (pa_cons (pe_op op_add (pe_op op_add (pv 1) pe_int) (pv 9)) pa_nil))) (pa_cons pe_int pa_nil))))
      (pss_cons (ps_set (i := 11) scRules.nd rfl (Or.inl rfl) (pe_ix ix_list (pv 7) (pe_c (ok_next T) hr (by decide) rfl (pa_cons (pv 10) (pa_cons pe_int pa_nil))) (fun _ _ => rfl)))
      (pss_cut (ps_set (i := 12) scRules.nd rfl (Or.inl rfl) (pe_and (pe_cmpR op_eq (pe_c (ok_next T) hr (by decide) rfl (pa_cons (pv 10) (pa_cons pe_int pa_nil))) pe_int (nomark _)) (pe_one (pe_cmpR op_eq (pv 9) pe_int (nomark _)))))
      (pss_cons (ps_set (i := 13) scRules.nd rfl (Or.inl rfl) (pe_op op_add pe_int (pe_op op_mul (pe_c (ok_next T) hr (by decide) rfl (pa_cons (pv 10) (pa_cons pe_int pa_nil))) (pe_callTy call_int1 (by rfl) T.z_int (by decide +kernel) (pa_cons (pe_cmpR op_lt (pv 5) pe_int (nomark _)) pa_nil)))))
      (pss_cons (ps_set (i := 14) scRules.nd rfl (Or.inl rfl) (pe_c (ok_part T 3) hr (by decide) rfl (pa_cons (pv 10) (pa_cons (pv 13) (pa_cons (pv 6) (pa_cons (pv 3) pa_nil))))))
      (pss_cut (ps_if (pt_val (pv 12)) (pss_one (ps_set (i := 14) scRules.nd rfl (Or.inl rfl) (pe_tup (pa_cons pe_str (pa_cons (pe_tup pa_nil) pa_nil))))) pss_nil)
      (pss_one (ps_expr (pe_bm PySem.F.plainAttrs_list PySem.F.slot_list_append PySem.F.type_list_append mt_append (pv 8) (pa_cons (pe_tup (pa_cons (pe_ix ix_list (pv 6) (pv 9) (fun _ _ => rfl)) (pa_cons (pv 11) (pa_cons (pv 14) pa_nil)))) pa_nil)))))))))))
    (pss_one (ps_ret (pv 8))))))))), ?_⟩
  -- READ
  refine ⟨_, rfl, _, rfl, _, _, rfl, S, ns, 1, rfl, rfl, hS, fun first => ?_⟩
  refine ⟨_, rfl, _, _, rfl, rfl, (by show (0 : Int) < 4; decide), _, _, rfl, rfl, ?_⟩
  refine ⟨fun σ H' => H' = H ∧ ∃ m : Nat, 1 ≤ m ∧ m ≤ 8 ∧ σ = [some (.ref S), some (.int 1), some (.ref pl), some (.int 3), some (.int first), some (.int m), none, none, none, none, none, none, none, none, none], ?_, ?_⟩
  · refine ⟨_, rfl, _, _, rfl, rfl, ⟨by decide, by decide⟩, _, _, rfl, rfl, (by show (0 : Int) < 8; decide), rfl, _, rfl, ?_⟩
    have f1 := Int.emod_nonneg first (show (4 : Int) ≠ 0 by decide)
    have f2 := Int.emod_lt_of_pos first (show (0 : Int) < 4 by decide)
    have f3 := Int.emod_nonneg (first / 32) (show (4 : Int) ≠ 0 by decide)
    have f4 := Int.emod_lt_of_pos (first / 32) (show (0 : Int) < 4 by decide)
    refine ite2 (fun _ => ?_) (fun _ => ?_)
    · refine ⟨_, rfl, _, _, rfl, rfl, ⟨by decide, by decide⟩, _, _, rfl, rfl, (by show (0 : Int) < 4; decide), _, _, rfl, rfl, ?_⟩
      refine ⟨rfl, (5 + first / 32 % 4).toNat, by omega, by omega, ?_⟩
      show [_, _, _, _, _, some (V.int (5 + first / 32 % 4)), _, _, _, _, _, _, _, _, _] = _
      rw [Int.toNat_of_nonneg (by omega)]
    · refine ⟨rfl, (1 + first % 4).toNat, by omega, by omega, ?_⟩
      show [_, _, _, _, _, some (V.int (1 + first % 4)), _, _, _, _, _, _, _, _, _] = _
      rw [Int.toNat_of_nonneg (by omega)]
  rintro σ H' ⟨rfl, m, hm1, hm8, rfl⟩
  have hp9 := np.len
  refine ⟨_, rfl, _, rfl, _, rfl, pl, _, rfl, SqL.of hpl, fun kl hkl0 => ?_⟩
  rw [cut_to, ← List.map_take]
  have s1 : Same H' (upd H' kl (.lst ((pool.take m).map V.str))) := same_new hkl0 _
  have ekl : upd H' kl (.lst ((pool.take m).map V.str)) kl = some (.lst ((pool.take m).map V.str)) := upd_same
  generalize upd H' kl (.lst ((pool.take m).map V.str)) = H1 at *
  refine ⟨_, rfl, _, rfl, _, _, rfl, rfl, ⟨by decide, by decide⟩, _, _, rfl, pl, pool, _, rfl, rfl, s1 _ _ hpl, hp9, fun tl H2 ts s2 htl0 etl ht4 hts => ?_⟩
  refine ⟨(by show 0 ≤ sizeLine; decide), fun g hg0 => ?_⟩
  have s3 : Same H2 (upd H2 g (.lst [])) := same_new hg0 _
  have klen : (pool.take m).length = m := by rw [List.length_take]; omega
  have s02 := s1.trans s2
  have kok : ∀ s ∈ pool.take m, NameOk s := fun s hs => np.ok s (List.mem_of_mem_take hs)
  refine ⟨_, rfl, (m : Int), rfl, by omega, by omega, for_range (n := (m : Int).toNat) (fun j σ H5 => ∃ (u9 u10 u11 u12 u13 u14 : Option V) (vs : List V) (R : List Rl), σ = [some (.ref S), some (.int 1), some (.ref pl), some (.int 3), some (.int first), some (.int m), some (.ref kl), some (.ref tl), some (.ref g), u9, u10, u11, u12, u13, u14] ∧ Same H2 H5 ∧ H5 g = some (.lst vs) ∧ DAts H5 (R.map ruleD) vs ∧ R.map (·.1) = (pool.take m).take j ∧ R.length = j ∧ ∀ r ∈ R, NameOk r.1 ∧ NameOk r.2.1 ∧ PB 3 (pool.take m) r.2.2) ?_ ?_ ?_⟩
  · exact ⟨none, none, none, none, none, none, [], [], rfl, s3, upd_same, by simp [DAts], by simp, rfl, fun r hr2 => by cases hr2⟩
  · rintro j σ H5 hj ⟨u9, u10, u11, u12, u13, u14, vs, R, rfl, s5, eg, hR, hRf, hRl, hRo⟩
    rw [Int.toNat_natCast] at hj
    rw [Int.zero_add]
    have hjk : j < (pool.take m).length := by omega
    refine ⟨_, rfl, _, rfl, _, _, rfl, rfl, _, rfl, _, _, rfl, rfl, _, _, rfl, S, ns, 1 + 1 + j, rfl, congrArg V.int (by omega), sql_same (s02.trans s5) hS, fun z => ?_⟩
    refine ⟨_, _, rfl, z, rfl, rfl, fun t H6 s6 ht0 tt => ?_⟩
    refine ⟨_, rfl, _, rfl, _, _, rfl, t, 3, rfl, rfl, tt, by decide, fun z7 H7 hz7 b7 t7 => ?_⟩
    have s57 := same_but s6 ht0 b7
    have hz7' : z7 < ts.length := by omega
    have etl7 : H7 tl = some (.lst (ts.map V.str)) := s57 _ _ (s5 _ _ etl)
    refine ⟨tl, _, _, _, rfl, rfl, SqL.of etl7, atI_nat (j := z7) (v := .str ts[z7]) (by rw [List.getElem?_map, List.getElem?_eq_getElem hz7']; rfl), ?_⟩
    refine ⟨fun σ H8 => ∃ em : Bool, σ = [some (.ref S), some (.int 1), some (.ref pl), some (.int 3), some (.int first), some (.int m), some (.ref kl), some (.ref tl), some (.ref g), some (.int j), some (.ref t), some (.str ts[z7]), some (.bl em), u13, u14] ∧ Same H5 H8 ∧ TapeAt H8 t, ?_, ?_⟩
    · refine ⟨_, rfl, _, _, rfl, t, 2, rfl, rfl, t7, by decide, fun z8 H8 hz8 b8 t8 => ⟨rfl, _, rfl, ?_⟩⟩
      have s58 := same_but s57 ht0 b8
      cases decide (V.int (z8 : Int) = V.int 0) with
      | true =>
        refine iteT ?_
        exact ⟨_, rfl, rfl, _, rfl, s58, t8⟩
      | false =>
        refine iteF ?_
        exact ⟨false, rfl, s58, t8⟩
    rintro σ H8 ⟨em, rfl, s58, t8⟩
    refine ⟨_, rfl, _, _, rfl, t, 3, rfl, rfl, t8, by decide, fun z9 H9 hz9 b9 t9 => ?_⟩
    have s59 := same_but s58 ht0 b9
    refine ⟨_, rfl, _, _, rfl, rfl, .inr ⟨_, rfl, _, _, rfl, rfl, .inl ⟨by omega, by omega⟩, _, _, rfl, rfl, ?_⟩⟩
    have elv : ∃ n : Nat, 1 ≤ n ∧ n ≤ 3 ∧ V.int (1 + (z9 : Int) * (if decide ((m : Int) < 5) = true then 1 else 0)) = V.int (n : Int) := by
      by_cases h5 : (m : Int) < 5
      · exact ⟨1 + z9, by omega, by omega, by rw [if_pos (decide_eq_true h5)]; congr 1 <;> omega⟩
      · exact ⟨1, by omega, by omega, by rw [if_neg (by rw [decide_eq_false h5]; decide)]; congr 1 <;> omega⟩
    obtain ⟨n, hn1, hn3, en⟩ := elv
    have nkt : kl ≠ t := ne_of_none (s5 _ _ (s2 _ _ ekl)) ht0
    refine ⟨_, rfl, _, rfl, _, rfl, _, rfl, _, _, _, _, rfl, t, n, kl, pool.take m, rfl, en, rfl, rfl, t9, hn1, hn3, hn3, s59 _ _ (s5 _ _ (s2 _ _ ekl)), nkt, (by intro e; rw [e] at klen; simp at klen; omega), kok, by omega, fun tv H10 p b10 t10 pb d10 => ?_⟩
    have s510 := same_but s59 ht0 b10
    refine ⟨fun σ H11 => ∃ (u13 : Option V) (tv : V) (p : Pat), σ = [some (.ref S), some (.int 1), some (.ref pl), some (.int 3), some (.int first), some (.int m), some (.ref kl), some (.ref tl), some (.ref g), some (.int j), some (.ref t), some (.str ts[z7]), some (.bl em), u13, some tv] ∧ Same H5 H11 ∧ PB 3 (pool.take m) p ∧ DAt H11 (toldD p) tv, ?_, ?_⟩
    · refine ⟨_, rfl, _, rfl, ?_⟩
      cases em with
      | true =>
        refine iteT ?_
        refine ⟨(by show 0 ≤ sizeLine; decide), fun b hb0 => ⟨(by show 2 ≤ sizeLine; decide), fun a ha0 => ?_⟩⟩
        have q2 : Same H10 (upd H10 b (.tup [])) := same_new hb0 _
        have q3 : Same (upd H10 b (.tup [])) (upd (upd H10 b (.tup [])) a (.tup [.str (Str.ofString "chain"), .ref b])) := same_new ha0 _
        exact ⟨_, _, .chain [], rfl, s510.trans (q2.trans q3), PB.empty (by omega), empty_told upd_same (q3 _ _ upd_same)⟩
      | false =>
        refine iteF ?_
        exact ⟨_, _, p, rfl, s510, pb.mono hn3 (fun x hx => hx), d10⟩
    rintro σ H11 ⟨u13', tv', p', rfl, s11, pb', d11⟩
    have eg11 := s11 _ _ eg
    have ekl11 : H11 kl = some (.lst ((pool.take m).map V.str)) := s11 _ _ (s5 _ _ (s2 _ _ ekl))
    refine ⟨_, rfl, .inl ⟨rfl, _, SqL.of eg11⟩, _, rfl, _, rfl, kl, _, _, _, rfl, rfl, SqL.of ekl11, atI_nat (j := j) (v := .str (pool.take m)[j]) (by rw [List.getElem?_map, List.getElem?_eq_getElem hjk]; rfl), _, rfl, _, rfl, (by show 3 ≤ sizeLine; decide), fun ra hra => ?_⟩
    have s12 : Same H11 (upd H11 ra (.tup [.str (pool.take m)[j], .str ts[z7], tv'])) := same_new hra _
    have vl := dats_len hR
    rw [List.length_map, hRl] at vl
    refine ⟨g, _, _, rfl, rfl, s12 _ _ eg11, by rw [sizeLine_eq]; omega, ?_⟩
    have z13 : Fz (upd H11 ra (.tup [.str (pool.take m)[j], .str ts[z7], tv'])) (upd (upd H11 ra (.tup [.str (pool.take m)[j], .str ts[z7], tv'])) g (.lst (vs ++ [.ref ra]))) := fz_updL (s12 _ _ eg11)
    refine ⟨_, _, _, _, _, _, vs ++ [.ref ra], R ++ [((pool.take m)[j], ts[z7], p')], rfl, fun x o e => by rw [upd_ne (ne_of_none e hg0)]; exact s12 _ _ (s11 _ _ (s5 _ _ e)), upd_same, ?_, ?_, by rw [List.length_append, hRl]; rfl, fun r hr2 => ?_⟩
    · have old := DAts.fz ((fz_same (s11.trans s12)).trans z13) hR
      have new : DAt (upd (upd H11 ra (.tup [.str (pool.take m)[j], .str ts[z7], tv'])) g (.lst (vs ++ [.ref ra]))) (ruleD ((pool.take m)[j], ts[z7], p')) (.ref ra) := by
        unfold ruleD
        rw [DAt]
        refine ⟨ra, _, rfl, z13 ra (.tup [.str (pool.take m)[j], .str ts[z7], tv']) True.intro upd_same, ?_⟩
        rw [DAts, DAts, DAts, DAts, DAt, DAt]
        exact ⟨rfl, rfl, d11.fz ((fz_same s12).trans z13), trivial⟩
      refine dats_of (by rw [List.length_append, List.length_map, List.length_append, vl, hRl]; rfl) fun i d v e1 e2 => ?_
      rw [List.map_append] at e1
      by_cases hi : i < R.length
      · rw [List.getElem?_append_left (by rw [List.length_map]; exact hi)] at e1
        rw [List.getElem?_append_left (by omega)] at e2
        obtain ⟨v', w1, w2⟩ := dats_get old e1
        rw [w1] at e2
        cases e2
        exact w2
      · rw [List.getElem?_append_right (by rw [List.length_map]; omega), List.length_map] at e1
        rw [List.getElem?_append_right (by omega), show i - vs.length = i - R.length by omega] at e2
        have hi0 : i - R.length = 0 := by
          have := (List.getElem?_eq_some_iff.mp e2).1
          simp at this
          omega
        rw [hi0] at e1 e2
        have e1 := Option.some.inj (show some (ruleD ((pool.take m)[j], ts[z7], p')) = some d from e1)
        have e2 := Option.some.inj (show some (V.ref ra) = some v from e2)
        subst e1 e2
        exact new
    · rw [List.map_append, hRf, take_snoc (List.getElem?_eq_getElem hjk)]
      rfl
    · rcases List.mem_append.mp hr2 with h | h
      · exact hRo r h
      · rw [List.mem_singleton.mp h]
        exact ⟨kok _ (List.getElem_mem hjk), np.ok _ (hts _ (List.getElem_mem hz7')), pb'⟩
  · rintro σ H5 ⟨u9, u10, u11, u12, u13, u14, vs, R, rfl, s5, eg, hR, hRf, hRl, hRo⟩
    rw [Int.toNat_natCast] at hRl hRf
    rw [List.take_of_length_le (by omega)] at hRf
    have hgH : H' g = none := by
      cases e : H' g with
      | none => rfl
      | some o => rw [s02 g o e] at hg0; cases hg0
    refine ⟨_, rfl, q g H5 vs R (s02.trans s5) hgH eg hR ⟨by omega, by omega, ?_, fun r hr2 => ?_⟩⟩
    · rw [hRf]; exact (List.take_sublist m pool).nodup np.nd
    · rw [hRf]; exact hRo r hr2
end
end KG
end
section
set_option Elab.async false
set_option linter.all false
set_option autoImplicit false
set_option maxRecDepth 100000
set_option maxHeartbeats 4000000
/-! ## _law_merged, _law_made_row, _law_changed -/
namespace KG
open PySem PySem.Spec PyProof.Rows L2 KM
open C8 (Cal Met Mak pe_c pe_mk pe_mt pe_mt0)
def RowL (H : Hp) (l : Addr) (n : Nat) : Prop := ∃ fs : List Str, H l = some (.lst (fs.map V.str)) ∧ fs.length ≤ n
theorem RowL.but {H H' : Hp} {l t : Addr} {n : Nat} (h : RowL H l n) (ne : l ≠ t) (b : But t H H') : RowL H' l n := by
  obtain ⟨fs, e, k⟩ := h
  exact ⟨fs, b _ _ ne e, k⟩
/-! how long a drawn row can be -/
mutual
def rl : Pat → Nat
  | .one _ => 1
  | .chain ps => rls ps
  | .choice ps => rls ps
  | .times p _ _ => 5 * rl p
  | .mixed ps => rls ps
def rls : List Pat → Nat
  | [] => 0
  | p :: ps => rl p + rls ps
end
theorem rls_mem {p : Pat} : ∀ {ps : List Pat}, p ∈ ps → rl p ≤ rls ps
  | [], h => by cases h
  | q :: ps, h => by
    rw [rls]
    rcases List.mem_cons.mp h with e | h
    · subst e; omega
    · have := rls_mem h; omega
mutual
theorem rl_le : ∀ (p : Pat) (d : Nat), dp p ≤ d → rl p ≤ sz p * 5 ^ d
  | .one f, d, _ => by
    rw [rl, sz]
    have : 0 < 5 ^ d := Nat.pow_pos (by decide)
    exact Nat.le_trans (by omega) (Nat.mul_le_mul (show 1 ≤ f.cps.toList.length + 3 by omega) this)
  | .chain ps, d, h => by rw [dp] at h; rw [rl, sz]; exact Nat.le_trans (rls_le ps d (by omega)) (Nat.mul_le_mul_right _ (by omega))
  | .choice ps, d, h => by rw [dp] at h; rw [rl, sz]; exact Nat.le_trans (rls_le ps d (by omega)) (Nat.mul_le_mul_right _ (by omega))
  | .mixed ps, d, h => by rw [dp] at h; rw [rl, sz]; exact Nat.le_trans (rls_le ps d (by omega)) (Nat.mul_le_mul_right _ (by omega))
  | .times p lo hi, d, h => by
    rw [dp] at h
    obtain ⟨e, he⟩ : ∃ e, d = e + 1 := ⟨d - 1, by omega⟩
    subst he
    have := rl_le p e (by omega)
    rw [rl, sz, Nat.pow_succ]
    have h2 : sz p * 5 ^ e * 5 ≤ (sz p + 12) * (5 ^ e * 5) := by rw [Nat.mul_assoc]; exact Nat.mul_le_mul_right _ (by omega)
    omega
theorem rls_le : ∀ (ps : List Pat) (d : Nat), dps ps ≤ d → rls ps ≤ szs ps * 5 ^ d
  | [], d, _ => by rw [rls]; omega
  | p :: ps, d, h => by
    rw [dps] at h
    have h1 := rl_le p d (by omega)
    have h2 := rls_le ps d (by omega)
    rw [rls, szs, Nat.add_mul, Nat.add_mul]
    omega
end
theorem rl_few {known : List Str} {p : Pat} (h : PB 3 known p) : rl p ≤ 1700000 := by
  have h1 := rl_le p 6 h.d
  have h2 : sz p ≤ 103 := h.z
  have h3 : sz p * 5 ^ 6 ≤ 103 * 5 ^ 6 := Nat.mul_le_mul_right _ h2
  have h4 : (103 : Nat) * 5 ^ 6 = 1609375 := by decide
  omega
section
variable {P : Program} {w : World} {K : PySem.W.Frag} {mg : Str → Option Value} {base : Heap} {N : Nm}
def spMerged : Sp := sp3 fun v u z H Q => ∃ (a b t : Addr) (m n : Nat), v = .ref a ∧ u = .ref b ∧ z = .ref t ∧ RowL H a m ∧ RowL H b n ∧ TapeAt H t ∧ a ≠ t ∧ b ≠ t ∧ m + n ≤ 4000000 ∧ ∀ l H', But t H H' → TapeAt H' t → H l = none → RowL H' l (m + n) → Q (.ref l) H'
theorem scMerged : FnScope ["_law_left", "_law_right", "_law_tape_here", "_law_row", "_law_i", "_law_j"] ["_law_left", "_law_right", "_law_tape_here"] (defScope sLawMerged) := ⟨rfl, rfl, rfl, by decide +kernel, rfl, by decide +kernel, by decide +kernel⟩
theorem ok_merged (T : Tx K mg N) : Cal P w K mg base 2 "_law_merged" spMerged [] := by
  refine T.d_law_merged.cal scMerged (fun _ _ _ _ _ _ us hl => match us, hl with | [_, _, _], _ => rfl) len3 (fun f cdv A outer s H vs Q E hr h => ?_)
  obtain ⟨_, _, _, rfl, a, b, t, m, n, rfl, rfl, rfl, ⟨fs, ea, hf⟩, ⟨gs, eb, hg⟩, ht, nat, nbt, hmn, q⟩ := h
  refine ⟨_, pss_cons (ps_set (i := 3) scMerged.nd rfl (Or.inl rfl) (pe_lst pa_nil)) (pss_cons (ps_set (i := 4) scMerged.nd rfl (Or.inl rfl) pe_int) (pss_cons (ps_set (i := 5) scMerged.nd rfl (Or.inl rfl) pe_int)
    (pss_cons (ps_while PassesOwn.never (PW.pt (pw_or (pt_cmpR op_lt (pv 4) (pe_callB call_len_seq (by rfl) T.z_len PySem.boot_len (pa_cons (pv 0) pa_nil)) (nomark _)) (pw_or1 (pt_cmpR op_lt (pv 5) (pe_callB call_len_seq (by rfl) T.z_len PySem.boot_len (pa_cons (pv 1) pa_nil)) (nomark _)))))
      (pss_one (ps_if (PW.pt (pw_or (pt_cmpR op_ge (pv 5) (pe_callB call_len_seq (by rfl) T.z_len PySem.boot_len (pa_cons (pv 1) pa_nil)) (nomark _)) (pw_or1 (PW.pt (pw_and (pt_cmpR op_lt (pv 4) (pe_callB call_len_seq (by rfl) T.z_len PySem.boot_len (pa_cons (pv 0) pa_nil)) (nomark _)) (pw_and1 (pt_cmpR op_eq (pe_c (ok_next T) hr (by decide) rfl (pa_cons (pv 2) (pa_cons pe_int pa_nil))) pe_int (nomark _))))))))
        (pss_cons (ps_expr (pe_bm PySem.F.plainAttrs_list PySem.F.slot_list_append PySem.F.type_list_append mt_append (pv 3) (pa_cons (pe_ix ix_list (pv 0) (pv 4) (fun _ _ => rfl)) pa_nil))) (pss_one (ps_set (i := 4) scMerged.nd rfl (Or.inl rfl) (pe_op op_add (pv 4) pe_int))))
        (pss_cons (ps_expr (pe_bm PySem.F.plainAttrs_list PySem.F.slot_list_append PySem.F.type_list_append mt_append (pv 3) (pa_cons (pe_ix ix_list (pv 1) (pv 5) (fun _ _ => rfl)) pa_nil))) (pss_one (ps_set (i := 5) scMerged.nd rfl (Or.inl rfl) (pe_op op_add (pv 5) pe_int)))))))
      (pss_one (ps_ret (pv 3)))))), ?_⟩
  refine ⟨(by show 0 ≤ sizeLine; decide), fun g hg0 => ?_⟩
  have s0 : Same H (upd H g (.lst [])) := same_new hg0 _
  have ngt : g ≠ t := fun z => by obtain ⟨ns, e⟩ := ht; rw [z, e] at hg0; cases hg0
  refine ⟨fun mu σ H' => ∃ (i j : Nat) (rs : List Str), mu = (fs.length - i) + (gs.length - j) ∧ i ≤ fs.length ∧ j ≤ gs.length ∧ rs.length = i + j ∧ σ = [some (.ref a), some (.ref b), some (.ref t), some (.ref g), some (.int i), some (.int j)] ∧ But t H H' ∧ TapeAt H' t ∧ H' g = some (.lst (rs.map V.str)),
    ⟨_, 0, 0, [], rfl, Nat.zero_le _, Nat.zero_le _, rfl, rfl, but_same s0, ht.same s0, upd_same⟩, ?_⟩
  rintro mu σ H' ⟨i, j, rs, rfl, hi, hj, hrs, rfl, bt, tt, eg⟩
  have ea' := bt _ _ nat ea
  have eb' := bt _ _ nbt eb
  -- the two steps
  have stepL : ∀ (D : Ends) (H2 : Hp), i < fs.length → But t H H2 → TapeAt H2 t → H2 g = some (.lst (rs.map V.str)) → (∀ σ H3, (∃ mu', mu' < (fs.length - i) + (gs.length - j) ∧ ∃ (i j : Nat) (rs : List Str), mu' = (fs.length - i) + (gs.length - j) ∧ i ≤ fs.length ∧ j ≤ gs.length ∧ rs.length = i + j ∧ σ = [some (.ref a), some (.ref b), some (.ref t), some (.ref g), some (.int i), some (.int j)] ∧ But t H H3 ∧ TapeAt H3 t ∧ H3 g = some (.lst (rs.map V.str))) → D.nx σ H3) →
      tSeq (tDrop (tBM K "list" rAppend (tVar 3) (tCons (tOp (rIxL K) (tVar 0) (tVar 4)) tNil))) (tAsg (tOp (rI0 fun i j => V.int (i + j)) (tVar 4) (tC (.int 1))) (gName 4)) D [some (V.ref a), some (.ref b), some (.ref t), some (.ref g), some (.int i), some (.int j)] H2 := fun D H2 hlt b2 t2 e2 kD => by
    refine ⟨_, rfl, .inl ⟨rfl, _, SqL.of e2⟩, _, rfl, _, rfl, a, _, _, _, rfl, rfl, SqL.of (b2 _ _ nat ea), atI_nat (j := i) (v := .str fs[i]) (by rw [List.getElem?_map, List.getElem?_eq_getElem hlt]; rfl), g, _, _, rfl, rfl, e2, by rw [List.length_map, sizeLine_eq]; omega, ?_⟩
    refine ⟨_, rfl, _, _, rfl, rfl, ?_⟩
    refine kD _ _ ⟨(fs.length - (i + 1)) + (gs.length - j), by omega, i + 1, j, rs ++ [fs[i]], rfl, by omega, hj, by rw [List.length_append, hrs]; simp; omega, rfl, fun x o hx e => by rw [upd_ne (ne_of_none e hg0)]; exact b2 x o hx e, ?_, by rw [upd_same, List.map_append]; rfl⟩
    obtain ⟨ns, et⟩ := t2
    exact ⟨ns, by rw [upd_ne (Ne.symm ngt)]; exact et⟩
  have stepR : ∀ (D : Ends) (H2 : Hp), j < gs.length → But t H H2 → TapeAt H2 t → H2 g = some (.lst (rs.map V.str)) → (∀ σ H3, (∃ mu', mu' < (fs.length - i) + (gs.length - j) ∧ ∃ (i j : Nat) (rs : List Str), mu' = (fs.length - i) + (gs.length - j) ∧ i ≤ fs.length ∧ j ≤ gs.length ∧ rs.length = i + j ∧ σ = [some (.ref a), some (.ref b), some (.ref t), some (.ref g), some (.int i), some (.int j)] ∧ But t H H3 ∧ TapeAt H3 t ∧ H3 g = some (.lst (rs.map V.str))) → D.nx σ H3) →
      tSeq (tDrop (tBM K "list" rAppend (tVar 3) (tCons (tOp (rIxL K) (tVar 1) (tVar 5)) tNil))) (tAsg (tOp (rI0 fun i j => V.int (i + j)) (tVar 5) (tC (.int 1))) (gName 5)) D [some (V.ref a), some (.ref b), some (.ref t), some (.ref g), some (.int i), some (.int j)] H2 := fun D H2 hlt b2 t2 e2 kD => by
    refine ⟨_, rfl, .inl ⟨rfl, _, SqL.of e2⟩, _, rfl, _, rfl, b, _, _, _, rfl, rfl, SqL.of (b2 _ _ nbt eb), atI_nat (j := j) (v := .str gs[j]) (by rw [List.getElem?_map, List.getElem?_eq_getElem hlt]; rfl), g, _, _, rfl, rfl, e2, by rw [List.length_map, sizeLine_eq]; omega, ?_⟩
    refine ⟨_, rfl, _, _, rfl, rfl, ?_⟩
    refine kD _ _ ⟨(fs.length - i) + (gs.length - (j + 1)), by omega, i, j + 1, rs ++ [gs[j]], rfl, hi, by omega, by rw [List.length_append, hrs]; simp; omega, rfl, fun x o hx e => by rw [upd_ne (ne_of_none e hg0)]; exact b2 x o hx e, ?_, by rw [upd_same, List.map_append]; rfl⟩
    obtain ⟨ns, et⟩ := t2
    exact ⟨ns, by rw [upd_ne (Ne.symm ngt)]; exact et⟩
  refine ⟨_, rfl, _, rfl, a, _, rfl, .inl (SqL.of ea'), _, _, rfl, rfl, _, rfl, ?_⟩
  rw [List.length_map]
  by_cases hi2 : i < fs.length
  · rw [decide_eq_true (show ((i : Nat) : Int) < ((fs.length : Nat) : Int) by omega)]
    refine iteT ?_
    refine iteT ?_
    refine ⟨fun σ H3 => ∃ mu', mu' < (fs.length - i) + (gs.length - j) ∧ ∃ (i j : Nat) (rs : List Str), mu' = (fs.length - i) + (gs.length - j) ∧ i ≤ fs.length ∧ j ≤ gs.length ∧ rs.length = i + j ∧ σ = [some (.ref a), some (.ref b), some (.ref t), some (.ref g), some (.int i), some (.int j)] ∧ But t H H3 ∧ TapeAt H3 t ∧ H3 g = some (.lst (rs.map V.str)), fun σ H3 h => h, ?_⟩
    refine ⟨_, rfl, _, rfl, b, _, rfl, .inl (SqL.of eb'), _, _, rfl, rfl, _, rfl, ?_⟩
    rw [List.length_map]
    by_cases hj2 : gs.length ≤ j
    · rw [decide_eq_true (show ((j : Nat) : Int) ≥ ((gs.length : Nat) : Int) by omega)]
      refine iteT ?_
      refine iteT ?_
      exact stepL _ H' (by omega) bt tt eg (fun σ H3 h => h)
    · rw [decide_eq_false (show ¬ ((j : Nat) : Int) ≥ ((gs.length : Nat) : Int) by omega)]
      refine iteF ?_
      refine ⟨_, rfl, _, rfl, a, _, rfl, .inl (SqL.of ea'), _, _, rfl, rfl, _, rfl, ?_⟩
      rw [List.length_map]
      by_cases hi3 : i < fs.length
      · rw [decide_eq_true (show ((i : Nat) : Int) < ((fs.length : Nat) : Int) by omega)]
        refine iteT ?_
        refine ⟨_, rfl, _, _, rfl, t, 2, rfl, rfl, tt, by decide, fun z H2 hz b2 t2 => ⟨rfl, _, rfl, ?_⟩⟩
        have eg2 := b2 _ _ ngt eg
        refine ite2 (fun _ => ?_) (fun _ => ?_)
        · exact stepL _ H2 hi3 (bt.trans b2) t2 eg2 (fun σ H3 h => h)
        · exact stepR _ H2 (by omega) (bt.trans b2) t2 eg2 (fun σ H3 h => h)
      · rw [decide_eq_false (show ¬ ((i : Nat) : Int) < ((fs.length : Nat) : Int) by omega)]
        refine iteF ?_
        refine iteF ?_
        exact stepR _ H' (by omega) bt tt eg (fun σ H3 h => h)
  · rw [decide_eq_false (show ¬ ((i : Nat) : Int) < ((fs.length : Nat) : Int) by omega)]
    refine iteF ?_
    refine ⟨_, rfl, _, rfl, b, _, rfl, .inl (SqL.of eb'), _, _, rfl, rfl, _, rfl, ?_⟩
    rw [List.length_map]
    by_cases hj3 : j < gs.length
    · rw [decide_eq_true (show ((j : Nat) : Int) < ((gs.length : Nat) : Int) by omega)]
      refine iteT ?_
      refine ⟨fun σ H3 => ∃ mu', mu' < (fs.length - i) + (gs.length - j) ∧ ∃ (i j : Nat) (rs : List Str), mu' = (fs.length - i) + (gs.length - j) ∧ i ≤ fs.length ∧ j ≤ gs.length ∧ rs.length = i + j ∧ σ = [some (.ref a), some (.ref b), some (.ref t), some (.ref g), some (.int i), some (.int j)] ∧ But t H H3 ∧ TapeAt H3 t ∧ H3 g = some (.lst (rs.map V.str)), fun σ H3 h => h, ?_⟩
      refine ⟨_, rfl, _, rfl, b, _, rfl, .inl (SqL.of eb'), _, _, rfl, rfl, _, rfl, ?_⟩
      rw [List.length_map]
      by_cases hj2 : gs.length ≤ j
      · rw [decide_eq_true (show ((j : Nat) : Int) ≥ ((gs.length : Nat) : Int) by omega)]
        refine iteT ?_
        refine iteT ?_
        exact stepL _ H' (by omega) bt tt eg (fun σ H3 h => h)
      · rw [decide_eq_false (show ¬ ((j : Nat) : Int) ≥ ((gs.length : Nat) : Int) by omega)]
        refine iteF ?_
        refine ⟨_, rfl, _, rfl, a, _, rfl, .inl (SqL.of ea'), _, _, rfl, rfl, _, rfl, ?_⟩
        rw [List.length_map]
        by_cases hi3 : i < fs.length
        · rw [decide_eq_true (show ((i : Nat) : Int) < ((fs.length : Nat) : Int) by omega)]
          refine iteT ?_
          refine ⟨_, rfl, _, _, rfl, t, 2, rfl, rfl, tt, by decide, fun z H2 hz b2 t2 => ⟨rfl, _, rfl, ?_⟩⟩
          have eg2 := b2 _ _ ngt eg
          refine ite2 (fun _ => ?_) (fun _ => ?_)
          · exact stepL _ H2 hi3 (bt.trans b2) t2 eg2 (fun σ H3 h => h)
          · exact stepR _ H2 (by omega) (bt.trans b2) t2 eg2 (fun σ H3 h => h)
        · rw [decide_eq_false (show ¬ ((i : Nat) : Int) < ((fs.length : Nat) : Int) by omega)]
          refine iteF ?_
          refine iteF ?_
          exact stepR _ H' (by omega) bt tt eg (fun σ H3 h => h)
    · rw [decide_eq_false (show ¬ ((j : Nat) : Int) < ((gs.length : Nat) : Int) by omega)]
      refine iteF ?_
      exact ⟨_, rfl, q g H' bt tt hg0 ⟨rs, eg, by omega⟩⟩
end
end KG
end
section
set_option Elab.async false
set_option linter.all false
set_option autoImplicit false
set_option maxRecDepth 100000
set_option maxHeartbeats 4000000
/-! ## _law_made_row, _law_changed -/
namespace KG
open PySem PySem.Spec PyProof.Rows L2 KM
open C8 (Cal Met Mak pe_c pe_mk pe_mt pe_mt0)
section
variable {P : Program} {w : World} {K : PySem.W.Frag} {mg : Str → Option Value} {base : Heap} {N : Nm}
def spRow (d : Nat) : Sp := sp2 fun v u H Q => ∃ (p : Pat) (t : Addr), u = .ref t ∧ DAt H (toldD p) v ∧ Cn p ∧ dp p ≤ d ∧ rl p ≤ 1700000 ∧ sz p ≤ 3000 ∧ TapeAt H t ∧ ∀ l H', But t H H' → TapeAt H' t → H l = none → RowL H' l (rl p) → Q (.ref l) H'
theorem scRow : FnScope ["_law_told", "_law_tape_here", "_law_row", "_law_many", "_law_k", "_law_some"] ["_law_told", "_law_tape_here"] (defScope sLawMadeRow) := ⟨rfl, rfl, rfl, by decide +kernel, rfl, by decide +kernel, by decide +kernel⟩
theorem but_new {H H1 H2 : Hp} {t g : Addr} (b : But t H H1) (hg : H g = none) (c : ∀ x o, x ≠ t → x ≠ g → H1 x = some o → H2 x = some o) : But t H H2 := fun x o hx e => c x o hx (ne_of_none e hg) (b x o hx e)
theorem none_but {H H1 : Hp} {t l : Addr} (b : But t H H1) (ht : TapeAt H t) (h : H1 l = none) (ht1 : TapeAt H1 t) : H l = none := by
  cases e : H l with
  | none => rfl
  | some o =>
    have n : l ≠ t := fun z => by obtain ⟨ns, q⟩ := ht1; rw [z, q] at h; cases h
    rw [b l o n e] at h
    cases h
theorem min_int {x y : Int} : (if y < x then y else x) = min x y := by
  unfold min
  show _ = if x ≤ y then x else y
  split <;> split <;> omega
theorem rls_app (ps qs : List Pat) : rls (ps ++ qs) = rls ps + rls qs := by
  induction ps with
  | nil => rw [rls]; simp
  | cons p ps ih => rw [List.cons_append, rls, rls, ih]; omega
theorem ok_made_row (T : Tx K mg N) : ∀ d : Nat, Cal P w K mg base (d + 3) "_law_made_row" (spRow d) []
  | 0 => by
    obtain ⟨f, fd, F, m⟩ := T.d_law_made_row.ex
    have no : ∀ vs H Q E, ¬ spRow 0 vs H Q E := fun vs H Q E ⟨_, _, _, p, _, _, _, _, h, _⟩ => by
      have := dp_pos p
      omega
    exact ⟨f, fd, ["_law_told", "_law_tape_here"], [], ⟨fun vs H Q E h => absurd h (no vs H Q E), fun A outer s H args us vs Q E _ _ _ _ h => absurd h (no vs H Q E)⟩, m, F.kp, F.bindsN (fun _ _ _ _ _ _ us hl => match us, hl with | [_, _], _ => rfl), .nil⟩
  | d + 1 => by
    have ih := ok_made_row T d
    refine T.d_law_made_row.cal scRow (fun _ _ _ _ _ _ us hl => match us, hl with | [_, _], _ => rfl) len2 (fun f cdv A outer s H vs Q E hr h => ?_)
    obtain ⟨v, _, rfl, p, t, rfl, hp, hc, hd, hrl, hsz, ht, q⟩ := h
    obtain ⟨a, tvs, rfl, ea, hrest⟩ := told_at hp
    refine ⟨_, pss_cons (ps_if (pt_cmpR op_eq (pe_ix ix_tup (pv 0) pe_int (fun _ _ => rfl)) pe_str (nomark _)) (pss_one (ps_ret (pe_lst (pa_cons (pe_ix ix_tup (pv 0) pe_int (fun _ _ => rfl)) pa_nil)))) pss_nil)
      (pss_cons (ps_if (pt_cmpR op_eq (pe_ix ix_tup (pv 0) pe_int (fun _ _ => rfl)) pe_str (nomark _)) (pss_one (ps_ret (pe_c ih hr (by omega) rfl (pa_cons (pe_ix ix_tup (pe_ix ix_tup (pv 0) pe_int (fun _ _ => rfl)) (pe_c (ok_next T) hr (by omega) rfl (pa_cons (pv 1) (pa_cons (pe_callB call_len_seq (by rfl) T.z_len PySem.boot_len (pa_cons (pe_ix ix_tup (pv 0) pe_int (fun _ _ => rfl)) pa_nil)) pa_nil))) (fun _ _ => rfl)) (pa_cons (pv 1) pa_nil))))) pss_nil)
      (pss_cons (ps_set (i := 2) scRow.nd rfl (Or.inl rfl) (pe_lst pa_nil))
      (pss_cons (ps_if (pt_cmpR op_eq (pe_ix ix_tup (pv 0) pe_int (fun _ _ => rfl)) pe_str (nomark _))
        (pss_cons (ps_set (i := 3) scRow.nd rfl (Or.inl rfl) (pe_callB (call_min2 rfl) (by rfl) T.z_min (by decide +kernel) (pa_cons pe_int (pa_cons (pe_op op_add (pe_ix ix_tup (pv 0) pe_int (fun _ _ => rfl)) (pe_c (ok_next T) hr (by omega) rfl (pa_cons (pv 1) (pa_cons pe_int pa_nil)))) pa_nil))))
        (pss_cut (ps_if (pt_cmpR op_ge (pe_ix ix_tup (pv 0) pe_int (fun _ _ => rfl)) pe_int (nomark _)) (pss_one (ps_set (i := 3) scRow.nd rfl (Or.inl rfl) (pe_callB (call_min2 rfl) (by rfl) T.z_min (by decide +kernel) (pa_cons (pv 3) (pa_cons (pe_ix ix_tup (pv 0) pe_int (fun _ _ => rfl)) pa_nil))))) pss_nil)
        (pss_cons (ps_for PassesOwn.never rfl (pi_range1 (by rfl) T.z_range (pa_cons (pv 3) pa_nil)) (pg_name (i := 4) scRow.nd rfl (Or.inl rfl))
          (pss_one (ps_expr (pe_bm PySem.F.plainAttrs_list PySem.F.slot_list_extend PySem.F.type_list_extend mt_extend (pv 2) (pa_cons (pe_c ih hr (by omega) rfl (pa_cons (pe_ix ix_tup (pv 0) pe_int (fun _ _ => rfl)) (pa_cons (pv 1) pa_nil))) pa_nil)))))
        (pss_one (ps_ret (pv 2)))))) pss_nil)
      (pss_cons (ps_for PassesOwn.never rfl (pi_range1 (by rfl) T.z_range (pa_cons (pe_callB call_len_seq (by rfl) T.z_len PySem.boot_len (pa_cons (pe_ix ix_tup (pv 0) pe_int (fun _ _ => rfl)) pa_nil)) pa_nil)) (pg_name (i := 4) scRow.nd rfl (Or.inl rfl))
        (pss_cons (ps_set (i := 5) scRow.nd rfl (Or.inl rfl) (pe_c ih hr (by omega) rfl (pa_cons (pe_ix ix_tup (pe_ix ix_tup (pv 0) pe_int (fun _ _ => rfl)) (pv 4) (fun _ _ => rfl)) (pa_cons (pv 1) pa_nil))))
        (pss_one (ps_if (pt_cmpR op_eq (pe_ix ix_tup (pv 0) pe_int (fun _ _ => rfl)) pe_str (nomark _))
          (pss_one (ps_expr (pe_bm PySem.F.plainAttrs_list PySem.F.slot_list_extend PySem.F.type_list_extend mt_extend (pv 2) (pa_cons (pv 5) pa_nil))))
          (pss_one (ps_set (i := 2) scRow.nd rfl (Or.inl rfl) (pe_c (ok_merged T) hr (by omega) rfl (pa_cons (pv 2) (pa_cons (pv 5) (pa_cons (pv 1) pa_nil))))))))))
      (pss_one (ps_ret (pv 2))))))), ?_⟩
    -- READ
    have kc := kd_chain (H := H) (ps := [])
    refine ⟨_, rfl, a, _, _, _, rfl, rfl, SqT.of ea, at0, rfl, _, rfl, ?_⟩
    cases p with
    | one x =>
      show if decide (V.str (Str.ofString "one") = V.str (Str.ofString "one")) = true then _ else _
      rw [kw_11]
      refine iteT ?_
      obtain ⟨y, e1, e2⟩ := dats1 hrest
      subst e1
      rw [DAt] at e2
      subst e2
      refine ⟨_, rfl, a, _, _, _, rfl, rfl, SqT.of ea, at1, (by show 1 ≤ sizeLine; decide), fun l hl0 => ?_⟩
      exact q l _ (but_same (same_new hl0 _)) (ht.same (same_new hl0 _)) hl0 ⟨[x], upd_same, by rw [rl]; simp⟩
    | choice ps =>
      show if decide (V.str (Str.ofString "choice") = V.str (Str.ofString "one")) = true then _ else _
      rw [show decide (V.str (Str.ofString "choice") = V.str (Str.ofString "one")) = false from by decide +kernel]
      refine iteF ?_
      refine ⟨_, rfl, a, _, _, _, rfl, rfl, SqT.of ea, at0, rfl, _, rfl, ?_⟩
      show if decide (V.str (Str.ofString "choice") = V.str (Str.ofString "choice")) = true then _ else _
      rw [kc.2.2.2.1]
      refine iteT ?_
      obtain ⟨y, e1, e2⟩ := dats1 hrest
      subst e1
      rw [DAt] at e2
      obtain ⟨tb, zs, rfl, etb, hzs⟩ := e2
      obtain ⟨hzl, hzg⟩ := tolds_get (ps := ps) hzs
      have h2 : 2 ≤ ps.length := by rw [Cn] at hc; exact hc.1
      refine ⟨_, rfl, a, _, _, _, rfl, rfl, SqT.of ea, at1, _, rfl, _, rfl, a, _, _, _, rfl, rfl, SqT.of ea, at1, tb, _, rfl, .inr (SqT.of etb), _, _, rfl, t, _, rfl, rfl, ht, by omega, fun z H1 hz b1 t1 => ?_⟩
      have hz' : z < ps.length := by omega
      obtain ⟨v, v1, v2⟩ := hzg z _ (List.getElem?_eq_getElem hz')
      have hm := List.getElem_mem hz'
      have hr1 := rls_mem hm
      have hd1 := dps_mem hm
      have hs1 := szs_mem hm
      rw [sz] at hsz
      rw [rl] at hrl
      rw [dp] at hd
      refine ⟨tb, _, _, _, rfl, rfl, SqT.of ((b1.fzT ht) _ _ True.intro etb), atI_nat v1, _, rfl, _, _, rfl, ps[z], t, rfl, v2.fz (b1.fzT ht), cn_choice hc _ hm, by omega, by omega, by omega, t1, fun l H2 b2 t2 hl0 ⟨gs, el, hgs⟩ => ?_⟩
      exact q l H2 (b1.trans b2) t2 (none_but b1 ht hl0 t1) ⟨gs, el, by rw [rl]; omega⟩
    | times p lo hi =>
      show if decide (V.str (Str.ofString "times") = V.str (Str.ofString "one")) = true then _ else _
      rw [kw_t1]
      refine iteF ?_
      refine ⟨_, rfl, a, _, _, _, rfl, rfl, SqT.of ea, at0, rfl, _, rfl, ?_⟩
      show if decide (V.str (Str.ofString "times") = V.str (Str.ofString "choice")) = true then _ else _
      rw [show decide (V.str (Str.ofString "times") = V.str (Str.ofString "choice")) = false from by decide +kernel]
      refine iteF ?_
      refine ⟨(by show 0 ≤ sizeLine; decide), fun g hg0 => ?_⟩
      have sg : Same H (upd H g (.lst [])) := same_new hg0 _
      have ngt : g ≠ t := fun z => by obtain ⟨ns, e⟩ := ht; rw [z, e] at hg0; cases hg0
      have eg0 : upd H g (.lst []) g = some (.lst []) := upd_same
      generalize upd H g (.lst []) = H0 at *
      refine ⟨_, rfl, a, _, _, _, rfl, rfl, SqT.of (sg _ _ ea), at0, rfl, _, rfl, ?_⟩
      show if decide (V.str (Str.ofString "times") = V.str (Str.ofString "times")) = true then _ else _
      rw [kw_tt]
      refine iteT ?_
      obtain ⟨x, y, z, e1, e2, e3, e4⟩ := dats3 hrest
      subst e1
      rw [DAt] at e3 e4
      subst e3 e4
      rw [rl] at hrl
      rw [sz] at hsz
      rw [dp] at hd
      have hcp := cn_times hc
      refine ⟨_, rfl, a, _, _, _, rfl, rfl, SqT.of (sg _ _ ea), at2, _, rfl, _, _, rfl, t, 3, rfl, rfl, ht.same sg, by decide, fun zn H1 hz b1 t1 => ⟨_, _, rfl, rfl, _, _, rfl, ?_⟩⟩
      have b01 := (but_same (t := t) sg).trans b1
      refine ⟨fun σ H' => H' = H1 ∧ ∃ m : Nat, m ≤ 5 ∧ σ = [some (.ref a), some (.ref t), some (.ref g), some (.int m), none, none], ?_, ?_⟩
      · obtain ⟨m0, hm0, em0⟩ : ∃ m0 : Nat, m0 ≤ 5 ∧ (if ((lo : Nat) : Int) + (zn : Int) < 5 then ((lo : Nat) : Int) + (zn : Int) else 5) = (m0 : Int) := by
          split
          · exact ⟨lo + zn, by omega, by omega⟩
          · exact ⟨5, by omega, rfl⟩
        show tIfS _ _ _ _ [some (V.ref a), some (V.ref t), some (V.ref g), some (V.int (if ((lo : Nat) : Int) + (zn : Int) < 5 then ((lo : Nat) : Int) + (zn : Int) else 5)), none, none] H1
        rw [em0]
        refine ⟨_, rfl, a, _, _, _, rfl, rfl, SqT.of ((b01.fzT ht) _ _ True.intro ea), at3, _, _, rfl, rfl, _, rfl, ?_⟩
        refine ite2 (fun h0 => ?_) (fun _ => ⟨rfl, m0, hm0, rfl⟩)
        have h0' : 0 ≤ hiI hi := of_decide_eq_true h0
        refine ⟨_, rfl, _, rfl, a, _, _, _, rfl, rfl, SqT.of ((b01.fzT ht) _ _ True.intro ea), at3, _, _, rfl, ?_⟩
        obtain ⟨m1, hm1, em1⟩ : ∃ m1 : Nat, m1 ≤ 5 ∧ (if hiI hi < (m0 : Int) then hiI hi else (m0 : Int)) = (m1 : Int) := by
          split
          · exact ⟨(hiI hi).toNat, by omega, by omega⟩
          · exact ⟨m0, hm0, rfl⟩
        refine ⟨rfl, m1, hm1, ?_⟩
        show [some (V.ref a), some (V.ref t), some (V.ref g), some (V.int (if hiI hi < (m0 : Int) then hiI hi else (m0 : Int))), none, none] = _
        rw [em1]
      rintro σ H' ⟨rfl, m, hm5, rfl⟩
      refine ⟨_, rfl, (m : Int), rfl, by omega, by omega, ?_⟩
      refine for_range (n := (m : Int).toNat) (fun j σ H' => ∃ (u4 u5 : Option V) (fs : List Str), σ = [some (.ref a), some (.ref t), some (.ref g), some (.int m), u4, u5] ∧ But t H H' ∧ TapeAt H' t ∧ H' g = some (.lst (fs.map V.str)) ∧ fs.length ≤ j * rl p) ?_ ?_ ?_
      · exact ⟨none, none, [], rfl, b01, t1, b1 _ _ ngt eg0, Nat.zero_le _⟩
      · rintro j σ H2 hj ⟨u4, u5, fs, rfl, bt, tt, eg, hf⟩
        rw [Int.toNat_natCast] at hj
        have hj5 : (j + 1) * rl p ≤ 5 * rl p := Nat.mul_le_mul_right _ (by omega)
        rw [Nat.add_mul, Nat.one_mul] at hj5
        refine ⟨_, rfl, .inl ⟨rfl, _, SqL.of eg⟩, _, rfl, a, _, _, _, rfl, rfl, SqT.of ((bt.fzT ht) _ _ True.intro ea), at1, _, rfl, _, _, rfl, p, t, rfl, e2.fz (bt.fzT ht), hcp, by omega, by omega, by omega, tt, fun l H3 b3 t3 hl0 ⟨gs, el, hgs⟩ => ?_⟩
        have eg3 := b3 _ _ ngt eg
        refine ⟨g, l, _, _, rfl, rfl, eg3, el, by rw [List.length_map, List.length_map, sizeLine_eq]; omega, ?_⟩
        refine ⟨_, _, fs ++ gs, rfl, but_new (bt.trans b3) hg0 (fun x o h1 h2 e => by rw [upd_ne h2]; exact e), ?_, by rw [upd_same, List.map_append], by rw [List.length_append, Nat.add_mul, Nat.one_mul]; omega⟩
        obtain ⟨ns, et⟩ := t3
        exact ⟨ns, by rw [upd_ne (Ne.symm ngt)]; exact et⟩
      · rintro σ H2 ⟨u4, u5, fs, rfl, bt, tt, eg, hf⟩
        rw [Int.toNat_natCast] at hf
        have hm2 : m * rl p ≤ 5 * rl p := Nat.mul_le_mul_right _ hm5
        exact ⟨_, rfl, q g H2 bt tt hg0 ⟨fs, eg, by rw [rl]; omega⟩⟩
    | chain ps =>
      show if decide (V.str (Str.ofString "chain") = V.str (Str.ofString "one")) = true then _ else _
      rw [show decide (V.str (Str.ofString "chain") = V.str (Str.ofString "one")) = false from by decide +kernel]
      refine iteF ?_
      refine ⟨_, rfl, a, _, _, _, rfl, rfl, SqT.of ea, at0, rfl, _, rfl, ?_⟩
      show if decide (V.str (Str.ofString "chain") = V.str (Str.ofString "choice")) = true then _ else _
      rw [show decide (V.str (Str.ofString "chain") = V.str (Str.ofString "choice")) = false from by decide +kernel]
      refine iteF ?_
      refine ⟨(by show 0 ≤ sizeLine; decide), fun g hg0 => ?_⟩
      have sg : Same H (upd H g (.lst [])) := same_new hg0 _
      have ngt : g ≠ t := fun z => by obtain ⟨ns, e⟩ := ht; rw [z, e] at hg0; cases hg0
      refine ⟨_, rfl, a, _, _, _, rfl, rfl, SqT.of (sg _ _ ea), at0, rfl, _, rfl, ?_⟩
      show if decide (V.str (Str.ofString "chain") = V.str (Str.ofString "times")) = true then _ else _
      rw [show decide (V.str (Str.ofString "chain") = V.str (Str.ofString "times")) = false from by decide +kernel]
      refine iteF ?_
      · obtain ⟨y, e1, e2⟩ := dats1 hrest
        subst e1
        rw [DAt] at e2
        obtain ⟨tb, zs, rfl, etb, hzs⟩ := e2
        obtain ⟨hzl, hzg⟩ := tolds_get (ps := ps) hzs
        have tat : ∀ {H' : Hp}, But t H H' → H' a = some (.tup (.str (Str.ofString "chain") :: [.ref tb])) ∧ H' tb = some (.tup zs) := fun b => ⟨(b.fzT ht) _ _ True.intro ea, (b.fzT ht) _ _ True.intro etb⟩
        have hrls : rls ps ≤ 1700000 := by rw [rl] at hrl; exact hrl
        have hdps : dps ps ≤ d := by rw [dp] at hd; omega
        have hcp : ∀ x ∈ ps, Cn x := cn_chain hc
        have psl : ps.length ≤ 3000000 := by rw [sz] at hsz; have := szs_len ps; omega
        refine ⟨_, rfl, a, _, _, _, rfl, rfl, SqT.of (tat (but_same sg)).1, at1, tb, _, rfl, .inr (SqT.of (tat (but_same sg)).2), (zs.length : Int), rfl, by omega, by omega, ?_⟩
        refine for_range (n := (zs.length : Int).toNat) (fun j σ H' => ∃ (g' : Addr) (u3 u4 u5 : Option V), σ = [some (.ref a), some (.ref t), some (.ref g'), u3, u4, u5] ∧ But t H H' ∧ TapeAt H' t ∧ H g' = none ∧ g' ≠ t ∧ RowL H' g' (rls (ps.take j))) ?_ ?_ ?_
        · exact ⟨g, none, none, none, rfl, but_same sg, ht.same sg, hg0, ngt, [], upd_same, Nat.zero_le _⟩
        · rintro j σ H' hj ⟨g', u3, u4, u5, rfl, bt, tt, hg', ng', fs, eg, hf⟩
          rw [Int.toNat_natCast] at hj
          rw [Int.zero_add]
          have hjp : j < ps.length := by omega
          have ep : ps[j]? = some ps[j] := List.getElem?_eq_getElem hjp
          obtain ⟨v, v1, v2⟩ := hzg j _ ep
          have hm := List.getElem_mem hjp
          have hr1 := rls_mem hm
          have hd1 := dps_mem hm
          have hs1 := szs_mem hm
          have hsz' := hsz
          rw [sz] at hsz'
          have esum : rls (ps.take (j + 1)) = rls (ps.take j) + rl ps[j] := by rw [take_snoc ep, rls_app, rls, rls]; omega
          have hle : rls (ps.take (j + 1)) ≤ rls ps := by
            have e := congrArg rls (List.take_append_drop (j + 1) ps)
            rw [rls_app] at e
            omega
          obtain ⟨ta1, ta2⟩ := tat bt
          refine ⟨_, rfl, a, _, _, _, rfl, rfl, SqT.of ta1, at1, _, rfl, tb, _, _, _, rfl, rfl, SqT.of ta2, atI_nat v1, _, rfl, _, _, rfl, ps[j], t, rfl, v2.fz (bt.fzT ht), hcp _ hm, by omega, by omega, by omega, tt, fun l H2 b2 t2 hl0 ⟨gs, el, hgs⟩ => ?_⟩
          have b2' := bt.trans b2
          obtain ⟨tb1, tb2⟩ := tat b2'
          have eg2 := b2 _ _ ng' eg
          have nlt : l ≠ t := fun z => by obtain ⟨ns, e⟩ := tt; rw [z, e] at hl0; cases hl0
          refine ⟨_, rfl, a, _, _, _, rfl, rfl, SqT.of tb1, at0, rfl, _, rfl, ?_⟩
          show if decide (V.str (Str.ofString "chain") = V.str (Str.ofString "chain")) = true then _ else _
          rw [kc.1]
          refine iteT ?_
          refine ⟨_, rfl, .inl ⟨rfl, _, SqL.of eg2⟩, _, rfl, g', l, _, _, rfl, rfl, eg2, el, by rw [List.length_map, List.length_map, sizeLine_eq]; omega, ?_⟩
          refine ⟨g', _, _, _, rfl, but_new b2' hg' (fun x o h1 h2 e => by rw [upd_ne h2]; exact e), ?_, hg', ng', fs ++ gs, by rw [upd_same, List.map_append], by rw [List.length_append]; omega⟩
          obtain ⟨ns, et⟩ := t2
          exact ⟨ns, by rw [upd_ne (Ne.symm ng')]; exact et⟩
        · rintro σ H' ⟨g', u3, u4, u5, rfl, bt, tt, hg', ng', rw'⟩
          rw [Int.toNat_natCast, hzl, List.take_length] at rw'
          exact ⟨_, rfl, q g' H' bt tt hg' (by rw [rl]; exact rw')⟩
    | mixed ps =>
      show if decide (V.str (Str.ofString "mixed") = V.str (Str.ofString "one")) = true then _ else _
      rw [show decide (V.str (Str.ofString "mixed") = V.str (Str.ofString "one")) = false from by decide +kernel]
      refine iteF ?_
      refine ⟨_, rfl, a, _, _, _, rfl, rfl, SqT.of ea, at0, rfl, _, rfl, ?_⟩
      show if decide (V.str (Str.ofString "mixed") = V.str (Str.ofString "choice")) = true then _ else _
      rw [kc.2.2.2.2]
      refine iteF ?_
      refine ⟨(by show 0 ≤ sizeLine; decide), fun g hg0 => ?_⟩
      have sg : Same H (upd H g (.lst [])) := same_new hg0 _
      have ngt : g ≠ t := fun z => by obtain ⟨ns, e⟩ := ht; rw [z, e] at hg0; cases hg0
      refine ⟨_, rfl, a, _, _, _, rfl, rfl, SqT.of (sg _ _ ea), at0, rfl, _, rfl, ?_⟩
      show if decide (V.str (Str.ofString "mixed") = V.str (Str.ofString "times")) = true then _ else _
      rw [show decide (V.str (Str.ofString "mixed") = V.str (Str.ofString "times")) = false from by decide +kernel]
      refine iteF ?_
      · obtain ⟨y, e1, e2⟩ := dats1 hrest
        subst e1
        rw [DAt] at e2
        obtain ⟨tb, zs, rfl, etb, hzs⟩ := e2
        obtain ⟨hzl, hzg⟩ := tolds_get (ps := ps) hzs
        have tat : ∀ {H' : Hp}, But t H H' → H' a = some (.tup (.str (Str.ofString "mixed") :: [.ref tb])) ∧ H' tb = some (.tup zs) := fun b => ⟨(b.fzT ht) _ _ True.intro ea, (b.fzT ht) _ _ True.intro etb⟩
        have hrls : rls ps ≤ 1700000 := by rw [rl] at hrl; exact hrl
        have hdps : dps ps ≤ d := by rw [dp] at hd; omega
        have hcp : ∀ x ∈ ps, Cn x := cn_mixed hc
        have psl : ps.length ≤ 3000000 := by rw [sz] at hsz; have := szs_len ps; omega
        refine ⟨_, rfl, a, _, _, _, rfl, rfl, SqT.of (tat (but_same sg)).1, at1, tb, _, rfl, .inr (SqT.of (tat (but_same sg)).2), (zs.length : Int), rfl, by omega, by omega, ?_⟩
        refine for_range (n := (zs.length : Int).toNat) (fun j σ H' => ∃ (g' : Addr) (u3 u4 u5 : Option V), σ = [some (.ref a), some (.ref t), some (.ref g'), u3, u4, u5] ∧ But t H H' ∧ TapeAt H' t ∧ H g' = none ∧ g' ≠ t ∧ RowL H' g' (rls (ps.take j))) ?_ ?_ ?_
        · exact ⟨g, none, none, none, rfl, but_same sg, ht.same sg, hg0, ngt, [], upd_same, Nat.zero_le _⟩
        · rintro j σ H' hj ⟨g', u3, u4, u5, rfl, bt, tt, hg', ng', fs, eg, hf⟩
          rw [Int.toNat_natCast] at hj
          rw [Int.zero_add]
          have hjp : j < ps.length := by omega
          have ep : ps[j]? = some ps[j] := List.getElem?_eq_getElem hjp
          obtain ⟨v, v1, v2⟩ := hzg j _ ep
          have hm := List.getElem_mem hjp
          have hr1 := rls_mem hm
          have hd1 := dps_mem hm
          have hs1 := szs_mem hm
          have hsz' := hsz
          rw [sz] at hsz'
          have esum : rls (ps.take (j + 1)) = rls (ps.take j) + rl ps[j] := by rw [take_snoc ep, rls_app, rls, rls]; omega
          have hle : rls (ps.take (j + 1)) ≤ rls ps := by
            have e := congrArg rls (List.take_append_drop (j + 1) ps)
            rw [rls_app] at e
            omega
          obtain ⟨ta1, ta2⟩ := tat bt
          refine ⟨_, rfl, a, _, _, _, rfl, rfl, SqT.of ta1, at1, _, rfl, tb, _, _, _, rfl, rfl, SqT.of ta2, atI_nat v1, _, rfl, _, _, rfl, ps[j], t, rfl, v2.fz (bt.fzT ht), hcp _ hm, by omega, by omega, by omega, tt, fun l H2 b2 t2 hl0 ⟨gs, el, hgs⟩ => ?_⟩
          have b2' := bt.trans b2
          obtain ⟨tb1, tb2⟩ := tat b2'
          have eg2 := b2 _ _ ng' eg
          have nlt : l ≠ t := fun z => by obtain ⟨ns, e⟩ := tt; rw [z, e] at hl0; cases hl0
          refine ⟨_, rfl, a, _, _, _, rfl, rfl, SqT.of tb1, at0, rfl, _, rfl, ?_⟩
          show if decide (V.str (Str.ofString "mixed") = V.str (Str.ofString "chain")) = true then _ else _
          rw [kc.2.2.1]
          refine iteF ?_
          refine ⟨_, rfl, _, rfl, _, rfl, _, _, _, rfl, g', l, t, rls (ps.take j), rl ps[j], rfl, rfl, rfl, ⟨fs, eg2, hf⟩, ⟨gs, el, hgs⟩, t2, ng', nlt, by omega, fun l3 H3 b3 t3 hl3 rw3 => ?_⟩
          have nl3 : l3 ≠ t := fun z => by obtain ⟨ns, e⟩ := t2; rw [z, e] at hl3; cases hl3
          exact ⟨l3, _, _, _, rfl, b2'.trans b3, t3, none_but b2' ht hl3 t2, nl3, by rw [esum]; exact rw3⟩
        · rintro σ H' ⟨g', u3, u4, u5, rfl, bt, tt, hg', ng', rw'⟩
          rw [Int.toNat_natCast, hzl, List.take_length] at rw'
          exact ⟨_, rfl, q g' H' bt tt hg' (by rw [rl]; exact rw')⟩
end
end KG
end
section
set_option Elab.async false
set_option linter.all false
set_option autoImplicit false
set_option maxRecDepth 100000
set_option maxHeartbeats 4000000
/-! ## _law_changed -/
namespace KG
open PySem PySem.Spec PyProof.Rows L2 KM
open C8 (Cal Met Mak pe_c pe_mk pe_mt pe_mt0)
section
variable {P : Program} {w : World} {K : PySem.W.Frag} {mg : Str → Option Value} {base : Heap} {N : Nm}
/-- the drawn rules in the heap -/
def RsAt (H : Hp) (l : Addr) (R : List Rl) : Prop := ∃ vs, H l = some (.lst vs) ∧ DAts H (R.map ruleD) vs
theorem RsAt.but {H H' : Hp} {l t : Addr} {R : List Rl} (h : RsAt H l R) (n : l ≠ t) (ht : TapeAt H t) (b : But t H H') : RsAt H' l R := by
  obtain ⟨vs, e, d⟩ := h
  exact ⟨vs, b _ _ n e, DAts.fz (b.fzT ht) d⟩
theorem rs_get {H : Hp} {l : Addr} {R : List Rl} (h : RsAt H l R) : ∃ vs, H l = some (.lst vs) ∧ vs.length = R.length ∧ ∀ i (hi : i < R.length), ∃ a d, vs[i]? = some (.ref a) ∧ H a = some (.tup [.str R[i].1, .str R[i].2.1, d]) ∧ DAt H (toldD R[i].2.2) d := by
  obtain ⟨vs, e, d⟩ := h
  refine ⟨vs, e, by rw [dats_len d, List.length_map], fun i hi => ?_⟩
  obtain ⟨v, v1, v2⟩ := dats_get (i := i) (d := ruleD R[i]) d (by rw [List.getElem?_map, List.getElem?_eq_getElem hi]; rfl)
  unfold ruleD at v2
  rw [DAt] at v2
  obtain ⟨a, xs, e1, e2, e3⟩ := v2
  match xs, e3 with
  | [x, y, z], e3 =>
    rw [DAts, DAts, DAts, DAts, DAt, DAt] at e3
    obtain ⟨q1, q2, q3, _⟩ := e3
    subst q1 q2
    exact ⟨a, z, by rw [v1, e1], e2, q3⟩
  | [], e3 => simp [DAts] at e3
  | [x], e3 => simp [DAts] at e3
  | [x, y], e3 => simp [DAts] at e3
  | x :: y :: z :: u :: xs, e3 => simp [DAts] at e3
def spChanged : Sp := sp3 fun v u z H Q => ∃ (l t rl : Addr) (n : Nat) (R : List Rl), v = .ref l ∧ u = .ref t ∧ z = .ref rl ∧ RowL H l n ∧ TapeAt H t ∧ l ≠ t ∧ rl ≠ t ∧ RsAt H rl R ∧ 0 < R.length ∧ R.length ≤ 8 ∧ n ≤ 2000000 ∧ ∀ l' H', But t H H' → TapeAt H' t → (∃ fs : List Str, H' l' = some (.lst (fs.map V.str)) ∧ fs.length ≤ n + 1) → Q (.ref l') H'
theorem scChanged : FnScope ["_law_row", "_law_tape_here", "_law_rules_here", "_law_way", "_law_at", "_law_form"] ["_law_row", "_law_tape_here", "_law_rules_here"] (defScope sLawChanged) := ⟨rfl, rfl, rfl, by decide +kernel, rfl, by decide +kernel, by decide +kernel⟩
theorem cut_mid (xs : List V) (i : Nat) : cutV xs (some (i : Int)) (some (((i + 1 : Nat)) : Int)) = (xs.drop i).take 1 := by
  unfold cutV
  rw [HT.sIx_nat, HT.sIx_nat]
  by_cases h : i + 1 ≤ xs.length
  · rw [show min (i + 1) xs.length = i + 1 from Nat.min_eq_left h, show min i xs.length = i from Nat.min_eq_left (by omega), show i + 1 - i = 1 by omega]
  · rw [Nat.min_eq_right (show xs.length ≤ i + 1 by omega), List.drop_of_length_le (show xs.length ≤ min i xs.length by omega), List.drop_of_length_le (show xs.length ≤ i by omega)]
    simp
theorem ok_changed (T : Tx K mg N) : Cal P w K mg base 2 "_law_changed" spChanged [] := by
  refine T.d_law_changed.cal scChanged (fun _ _ _ _ _ _ us hl => match us, hl with | [_, _, _], _ => rfl) len3 (fun f cdv A outer s H vs Q E hr h => ?_)
  obtain ⟨_, _, _, rfl, l, t, rl, n, R, rfl, rfl, rfl, ⟨fs, el, hf⟩, ht, nlt, nrt, hR, hR0, hR8, hn, q⟩ := h
  refine ⟨_, pss_cons (ps_set (i := 3) scChanged.nd rfl (Or.inl rfl) (pe_c (ok_next T) hr (by decide) rfl (pa_cons (pv 1) (pa_cons pe_int pa_nil))))
    (pss_cons (ps_set (i := 4) scChanged.nd rfl (Or.inl rfl) (pe_c (ok_next T) hr (by decide) rfl (pa_cons (pv 1) (pa_cons (pe_op op_add (pe_callB call_len_seq (by rfl) T.z_len PySem.boot_len (pa_cons (pv 0) pa_nil)) pe_int) pa_nil))))
    (pss_cons (ps_set (i := 5) scChanged.nd rfl (Or.inl rfl) (pe_ix ix_tup (pe_ix ix_list (pv 2) (pe_c (ok_next T) hr (by decide) rfl (pa_cons (pv 1) (pa_cons (pe_callB call_len_seq (by rfl) T.z_len PySem.boot_len (pa_cons (pv 2) pa_nil)) pa_nil))) (fun _ _ => rfl)) pe_int (fun _ _ => rfl)))
    (pss_cons (ps_if (pt_cmpR op_eq (pv 3) pe_int (nomark _)) (pss_one (ps_ret (pe_op op_cat (pe_slice sl_list (pv 0) po_none (po_some (pv 4))) (pe_slice sl_list (pv 0) (po_some (pe_op op_add (pv 4) pe_int)) po_none)))) pss_nil)
    (pss_cons (ps_if (pt_cmpR op_eq (pv 3) pe_int (nomark _)) (pss_one (ps_ret (pe_op op_cat (pe_op op_cat (pe_slice sl_list (pv 0) po_none (po_some (pv 4))) (pe_slice sl_list (pv 0) (po_some (pv 4)) (po_some (pe_op op_add (pv 4) pe_int)))) (pe_slice sl_list (pv 0) (po_some (pv 4)) po_none)))) pss_nil)
    (pss_cons (ps_if (pt_cmpR op_eq (pv 3) pe_int (nomark _)) (pss_one (ps_ret (pe_op op_cat (pe_op op_cat (pe_slice sl_list (pv 0) po_none (po_some (pv 4))) (pe_lst (pa_cons (pv 5) pa_nil))) (pe_slice sl_list (pv 0) (po_some (pe_op op_add (pv 4) pe_int)) po_none)))) pss_nil)
    (pss_cons (ps_if (pt_cmpR op_eq (pv 3) pe_int (nomark _)) (pss_one (ps_ret (pe_op op_cat (pe_slice sl_list (pv 0) (po_some (pv 4)) po_none) (pe_slice sl_list (pv 0) po_none (po_some (pv 4)))))) pss_nil)
    (pss_one (ps_ret (pv 0))))))))), ?_⟩
  refine ⟨_, rfl, _, _, rfl, t, 6, rfl, rfl, ht, by decide, fun way H1 hw b1 t1 => ?_⟩
  refine ⟨_, rfl, _, rfl, l, _, rfl, .inl (SqL.of (b1 _ _ nlt el)), _, _, rfl, rfl, _, _, rfl, t, _, rfl, rfl, t1, by omega, fun at_ H2 hat b2 t2 => ?_⟩
  rw [List.length_map] at hat
  have b12 := b1.trans b2
  obtain ⟨rvs, er, erl, erg⟩ := rs_get hR
  refine ⟨_, rfl, _, rfl, _, rfl, rl, _, rfl, .inl (SqL.of (b12 _ _ nrt er)), _, _, rfl, t, _, rfl, rfl, t2, by omega, fun z3 H3 hz b3 t3 => ?_⟩
  have b13 := b12.trans b3
  have hz' : z3 < R.length := by omega
  obtain ⟨ra, rd, r1, r2, r3⟩ := erg z3 hz'
  refine ⟨rl, _, _, _, rfl, rfl, SqL.of (b13 _ _ nrt er), atI_nat r1, ra, _, _, _, rfl, rfl, SqT.of ((b13.fzT ht) _ _ True.intro r2), at0, ?_⟩
  have el3 := b13 _ _ nlt el
  have hal : at_ ≤ fs.length := by omega
  have up : ∀ {H4 H5 : Hp}, Same H4 H5 → (Same H3 H4) → Same H3 H5 := fun a b => b.trans a
  have fin : ∀ (l' : Addr) (H4 : Hp) (gs : List Str), Same H3 H4 → H4 l' = some (.lst (gs.map V.str)) → gs.length ≤ n + 1 → Q (.ref l') H4 := fun l' H4 gs s4 e h => q l' H4 (b13.trans (but_same s4)) (t3.same s4) ⟨gs, e, h⟩
  refine ⟨_, rfl, rfl, _, rfl, ?_⟩
  refine ite2 (fun _ => ?_) (fun _ => ?_)
  · refine ⟨_, rfl, _, rfl, _, rfl, l, _, rfl, SqL.of el3, fun p1 h1 => ?_⟩
    rw [cut_to, ← List.map_take]
    have s1 : Same H3 (upd H3 p1 (.lst ((fs.take at_).map V.str))) := same_new h1 _
    refine ⟨_, rfl, _, rfl, _, _, rfl, rfl, _, rfl, l, _, rfl, SqL.of (s1 _ _ el3), fun p2 h2 => ?_⟩
    rw [show ((at_ : Int) + 1) = ((at_ + 1 : Nat) : Int) from rfl, cut_from, ← List.map_drop]
    have s2 := same_new h2 (.lst ((fs.drop (at_ + 1)).map V.str))
    refine ⟨p1, p2, _, _, rfl, rfl, s2 _ _ upd_same, upd_same, by rw [List.length_map, List.length_map, List.length_take, List.length_drop, sizeLine_eq]; omega, fun p3 h3 => ?_⟩
    exact fin p3 _ (fs.take at_ ++ fs.drop (at_ + 1)) (s1.trans (s2.trans (same_new h3 _))) (by rw [upd_same, List.map_append]) (by rw [List.length_append, List.length_take, List.length_drop]; omega)
  -- WAY1
  refine ⟨_, rfl, rfl, _, rfl, ?_⟩
  refine ite2 (fun _ => ?_) (fun _ => ?_)
  · refine ⟨_, rfl, _, rfl, _, rfl, l, _, rfl, SqL.of el3, fun p1 h1 => ?_⟩
    rw [cut_to, ← List.map_take]
    have s1 : Same H3 (upd H3 p1 (.lst ((fs.take at_).map V.str))) := same_new h1 _
    refine ⟨_, rfl, _, rfl, _, rfl, _, rfl, _, _, rfl, rfl, _, rfl, l, _, rfl, SqL.of (s1 _ _ el3), fun p2 h2 => ?_⟩
    rw [show ((at_ : Int) + 1) = ((at_ + 1 : Nat) : Int) from rfl, cut_mid, ← List.map_drop, ← List.map_take]
    have s2 := same_new h2 (.lst (((fs.drop at_).take 1).map V.str))
    refine ⟨p1, p2, _, _, rfl, rfl, s2 _ _ upd_same, upd_same, by rw [List.length_map, List.length_map, List.length_take, List.length_take, List.length_drop, sizeLine_eq]; omega, fun p3 h3 => ?_⟩
    have s3 := same_new h3 (.lst ((fs.take at_).map V.str ++ ((fs.drop at_).take 1).map V.str))
    have s13 := s1.trans (s2.trans s3)
    refine ⟨_, rfl, _, rfl, _, rfl, l, _, rfl, SqL.of (s13 _ _ el3), fun p4 h4 => ?_⟩
    rw [cut_from, ← List.map_drop]
    have s4 := same_new h4 (.lst ((fs.drop at_).map V.str))
    refine ⟨p3, p4, _, _, rfl, rfl, s4 _ _ upd_same, upd_same, by rw [List.length_append, List.length_map, List.length_map, List.length_map, List.length_take, List.length_take, List.length_drop, sizeLine_eq]; omega, fun p5 h5 => ?_⟩
    exact fin p5 _ (fs.take at_ ++ (fs.drop at_).take 1 ++ fs.drop at_) (s13.trans (s4.trans (same_new h5 _))) (by rw [upd_same, List.map_append, List.map_append]) (by rw [List.length_append, List.length_append, List.length_take, List.length_take, List.length_drop]; omega)
  refine ⟨_, rfl, rfl, _, rfl, ?_⟩
  refine ite2 (fun _ => ?_) (fun _ => ?_)
  · refine ⟨_, rfl, _, rfl, _, rfl, l, _, rfl, SqL.of el3, fun p1 h1 => ?_⟩
    rw [cut_to, ← List.map_take]
    have s1 : Same H3 (upd H3 p1 (.lst ((fs.take at_).map V.str))) := same_new h1 _
    refine ⟨_, rfl, (by show 1 ≤ sizeLine; decide), fun p2 h2 => ?_⟩
    have s2 := same_new h2 (.lst [V.str R[z3].1])
    refine ⟨p1, p2, _, _, rfl, rfl, s2 _ _ upd_same, upd_same, by rw [List.length_map, List.length_take, sizeLine_eq]; simp; omega, fun p3 h3 => ?_⟩
    have s3 := same_new h3 (.lst ((fs.take at_).map V.str ++ [V.str R[z3].1]))
    have s13 := s1.trans (s2.trans s3)
    refine ⟨_, rfl, _, rfl, _, _, rfl, rfl, _, rfl, l, _, rfl, SqL.of (s13 _ _ el3), fun p4 h4 => ?_⟩
    rw [show ((at_ : Int) + 1) = ((at_ + 1 : Nat) : Int) from rfl, cut_from, ← List.map_drop]
    have s4 := same_new h4 (.lst ((fs.drop (at_ + 1)).map V.str))
    refine ⟨p3, p4, _, _, rfl, rfl, s4 _ _ upd_same, upd_same, by rw [List.length_append, List.length_map, List.length_map, List.length_take, List.length_drop, sizeLine_eq]; simp; omega, fun p5 h5 => ?_⟩
    exact fin p5 _ (fs.take at_ ++ [R[z3].1] ++ fs.drop (at_ + 1)) (s13.trans (s4.trans (same_new h5 _))) (by rw [upd_same, List.map_append, List.map_append]; rfl) (by rw [List.length_append, List.length_append, List.length_take, List.length_drop]; simp; omega)
  refine ⟨_, rfl, rfl, _, rfl, ?_⟩
  refine ite2 (fun _ => ?_) (fun _ => ?_)
  · refine ⟨_, rfl, _, rfl, _, rfl, l, _, rfl, SqL.of el3, fun p1 h1 => ?_⟩
    rw [cut_from, ← List.map_drop]
    have s1 : Same H3 (upd H3 p1 (.lst ((fs.drop at_).map V.str))) := same_new h1 _
    refine ⟨_, rfl, _, rfl, _, rfl, l, _, rfl, SqL.of (s1 _ _ el3), fun p2 h2 => ?_⟩
    rw [cut_to, ← List.map_take]
    have s2 := same_new h2 (.lst ((fs.take at_).map V.str))
    refine ⟨p1, p2, _, _, rfl, rfl, s2 _ _ upd_same, upd_same, by rw [List.length_map, List.length_map, List.length_take, List.length_drop, sizeLine_eq]; omega, fun p3 h3 => ?_⟩
    exact fin p3 _ (fs.drop at_ ++ fs.take at_) (s1.trans (s2.trans (same_new h3 _))) (by rw [upd_same, List.map_append]) (by rw [List.length_append, List.length_take, List.length_drop]; omega)
  · exact ⟨_, rfl, fin l H3 fs (Same.refl _) el3 (by omega)⟩
end
end KG
end
section
set_option Elab.async false
set_option linter.all false
set_option autoImplicit false
set_option maxRecDepth 100000
set_option maxHeartbeats 4000000
/-! ## What fits, as the law asks it: the plain part -/
namespace KG
open PySem KM
theorem pow_succ {X : KM.Row → Prop} {n : Nat} {r : KM.Row} : KM.Pow X (n + 1) r ↔ ∃ a b, r = a ++ b ∧ X a ∧ KM.Pow X n b := by rw [KM.Pow]
/-- a count over a row that is not empty -/
theorem times_step {p : Pat} {lo : Nat} {hi : Option Nat} {row : KM.Row} (hne : row ≠ []) :
    L (.times p lo hi) row ↔ hi ≠ some 0 ∧ ∃ k, 1 ≤ k ∧ k ≤ row.length ∧ L p (row.take k) ∧ L (.times p (lo - 1) (dec hi)) (row.drop k) := by
  rw [L_times]
  constructor
  · rintro ⟨n, h1, h2, h3⟩
    match row, hne with
    | x :: r, _ =>
      obtain ⟨a, b, m, e, ha, hm, hb, hpad⟩ := Pow_cons n h3
      refine ⟨fun z => by have := h2 0 z; omega, (x :: a).length, by simp, by rw [e]; simp, ?_, ?_⟩
      · rw [e, ← List.cons_append, List.take_left']
        · exact ha
        · rfl
      · rw [e, ← List.cons_append, List.drop_left', L_times]
        · refine ⟨n - 1, by omega, fun h z => ?_, ?_⟩
          · cases hi with
            | none => cases z
            | some h' =>
              have := h2 h' rfl
              have z2 : h' - 1 = h := by rw [dec] at z; exact Option.some.inj z
              omega
          · by_cases hlt : m + 1 < n
            · have := Pow_pad (hpad hlt) hb (n - 1 - m)
              rw [show m + (n - 1 - m) = n - 1 by omega] at this
              exact this
            · rw [show n - 1 = m by omega]
              exact hb
        · rfl
  · rintro ⟨h0, k, h1, h2, h3, h4⟩
    rw [L_times] at h4
    obtain ⟨n, n1, n2, n3⟩ := h4
    refine ⟨n + 1, by omega, fun h z => ?_, ?_⟩
    · subst z
      have := n2 (h - 1) rfl
      have : h ≠ 0 := fun z => h0 (by rw [z])
      omega
    · rw [pow_succ]
      exact ⟨row.take k, row.drop k, (List.take_append_drop k row).symm, h3, n3⟩
theorem times_nil {p : Pat} {lo : Nat} {hi : Option Nat} (h : ∀ x, hi = some x → lo ≤ x) : L (.times p lo hi) [] ↔ lo = 0 ∨ L p [] := by
  rw [L_times]
  constructor
  · rintro ⟨n, h1, h2, h3⟩
    by_cases h0 : lo = 0
    · exact .inl h0
    · exact .inr (Pow_nil_iff n (by omega) h3)
  · rintro (h0 | h0)
    · exact ⟨0, by omega, fun x e => by omega, by rw [KM.Pow]⟩
    · exact ⟨lo, Nat.le_refl _, fun x e => h x e, Pow_nil_of h0 lo⟩
theorem chain_step {p : Pat} {ps : List Pat} {row : KM.Row} : L (.chain (p :: ps)) row ↔ ∃ k, k ≤ row.length ∧ L p (row.take k) ∧ L (.chain ps) (row.drop k) := by
  rw [L_chain, Lc_cons]
  constructor
  · rintro ⟨a, b, e, ha, hb⟩
    refine ⟨a.length, by rw [e]; simp, ?_, ?_⟩
    · rw [e, List.take_left']; exact ha; rfl
    · rw [e, List.drop_left', L_chain]; exact hb; rfl
  · rintro ⟨k, _, h1, h2⟩
    rw [L_chain] at h2
    exact ⟨_, _, (List.take_append_drop k row).symm, h1, h2⟩
theorem mixed_one {p : Pat} {row : KM.Row} : L (.mixed [p]) row ↔ L p row := by rw [L_mixed, Lm_one]
/-- how deep the asking goes -/
def pickB : List Bool → KM.Row → KM.Row
  | true :: bs, x :: r => x :: pickB bs r
  | false :: bs, _ :: r => pickB bs r
  | _, _ => []
def dropB : List Bool → KM.Row → KM.Row
  | true :: bs, _ :: r => dropB bs r
  | false :: bs, x :: r => x :: dropB bs r
  | _, _ => []
theorem shuf_iff {a b : KM.Row} : ∀ {row : KM.Row}, Shuf a b row ↔ ∃ bs : List Bool, bs.length = row.length ∧ a = pickB bs row ∧ b = dropB bs row := by
  intro row
  constructor
  · intro h
    induction h with
    | nil => exact ⟨[], rfl, rfl, rfl⟩
    | goL x _ ih =>
      obtain ⟨bs, h1, h2, h3⟩ := ih
      exact ⟨true :: bs, by simp [h1], by rw [pickB, ← h2], by rw [dropB, ← h3]⟩
    | goR x _ ih =>
      obtain ⟨bs, h1, h2, h3⟩ := ih
      exact ⟨false :: bs, by simp [h1], by rw [pickB, ← h2], by rw [dropB, ← h3]⟩
  · rintro ⟨bs, h1, rfl, rfl⟩
    induction row generalizing bs with
    | nil =>
      match bs, h1 with
      | [], _ => exact .nil
    | cons x r ih =>
      match bs, h1 with
      | true :: bs, h1 => exact .goL x (ih bs (by simpa using h1))
      | false :: bs, h1 => exact .goR x (ih bs (by simpa using h1))
theorem mixed_step {p : Pat} {ps : List Pat} {row : KM.Row} : L (.mixed (p :: ps)) row ↔ ∃ bs : List Bool, bs.length = row.length ∧ L p (pickB bs row) ∧ L (.mixed ps) (dropB bs row) := by
  rw [L_mixed, Lm_cons]
  constructor
  · rintro ⟨a, b, h, ha, hb⟩
    obtain ⟨bs, h1, h2, h3⟩ := shuf_iff.mp h
    exact ⟨bs, h1, by rw [← h2]; exact ha, by rw [← h3, L_mixed]; exact hb⟩
  · rintro ⟨bs, h1, h2, h3⟩
    rw [L_mixed] at h3
    exact ⟨_, _, shuf_iff.mpr ⟨bs, h1, rfl, rfl⟩, h2, h3⟩
end KG
end
section
set_option Elab.async false
set_option linter.all false
set_option autoImplicit false
set_option maxRecDepth 100000
set_option maxHeartbeats 4000000
/-! ## _law_times_fit, _law_mixed_fit, _law_fits -/
namespace KG
open PySem PySem.Spec PyProof.Rows L2 KM
open C8 (Cal Met Mak pe_c pe_mk pe_mt pe_mt0)
open Classical
/-- counts in order -/
def Cq : Pat → Prop
  | .one _ => True
  | .chain ps => ∀ p ∈ ps, Cq p
  | .choice ps => ∀ p ∈ ps, Cq p
  | .times p lo hi => Cq p ∧ ∀ h, hi = some h → lo ≤ h
  | .mixed ps => ∀ p ∈ ps, Cq p
theorem ct_of : ∀ p, Cn p → Cq p
  | .one _, _ => by rw [Cq]; trivial
  | .chain ps, h => by rw [Cq]; exact fun p hp => ct_of p (cn_chain h p hp)
  | .choice ps, h => by rw [Cq]; exact fun p hp => ct_of p (cn_choice h p hp)
  | .times p lo hi, h => by
    rw [Cq]
    refine ⟨ct_of p (cn_times h), fun x e => ?_⟩
    rw [Cn] at h
    exact (h.2.2.1.2 x e).2
  | .mixed ps, h => by rw [Cq]; exact fun p hp => ct_of p (cn_mixed h p hp)
theorem sz_three (p : Pat) : 3 ≤ sz p := by cases p <;> rw [sz] <;> omega
/-- a row of mark lists in the heap -/
def RowsAt (H : Hp) (l : Addr) (row : KM.Row) : Prop := ∃ as : List Addr, H l = some (.lst (as.map V.ref)) ∧ as.length = row.length ∧ ∀ (i : Nat) (a : Addr) (s : List Str), as[i]? = some a → row[i]? = some s → H a = some (.lst (s.map V.str))
theorem RowsAt.same {H H' : Hp} {l : Addr} {row : KM.Row} (h : RowsAt H l row) (s : Same H H') : RowsAt H' l row := by
  obtain ⟨as, h1, h2, h3⟩ := h
  exact ⟨as, s _ _ h1, h2, fun i a t e f => s _ _ (h3 i a t e f)⟩
def spFits (m : Nat) : Sp := sp2 fun v u H Q => ∃ (p : Pat) (l : Addr) (row : KM.Row), u = .ref l ∧ DAt H (toldD p) v ∧ RowsAt H l row ∧ row.length ≤ 4 ∧ sz p ≤ m ∧ Cq p ∧ ∀ H', Same H H' → Q (.bl (decide (L p row))) H'
def spTimesFit (m : Nat) : Sp := sp4 fun v u z y H Q => ∃ (p : Pat) (lo : Nat) (hi : Option Nat) (l : Addr) (row : KM.Row), u = .int lo ∧ z = .int (hiI hi) ∧ y = .ref l ∧ DAt H (toldD p) v ∧ RowsAt H l row ∧ row.length ≤ 4 ∧ sz p + 1 + row.length ≤ m ∧ Cq p ∧ (∀ h, hi = some h → lo ≤ h) ∧ ∀ H', Same H H' → Q (.bl (decide (L (.times p lo hi) row))) H'
def spMixedFit (m : Nat) : Sp := sp2 fun v u H Q => ∃ (ps : List Pat) (t : Addr) (vs : List V) (l : Addr) (row : KM.Row), v = .ref t ∧ u = .ref l ∧ H t = some (.tup vs) ∧ ToldsAt H ps vs ∧ ps ≠ [] ∧ RowsAt H l row ∧ row.length ≤ 4 ∧ szs ps + 2 ≤ m ∧ (∀ p ∈ ps, Cq p) ∧ ∀ H', Same H H' → Q (.bl (decide (L (.mixed ps) row))) H'
section
variable {P : Program} {w : World} {K : PySem.W.Frag} {mg : Str → Option Value} {base : Heap} {N : Nm}
theorem scFits : FnScope ["_law_told", "_law_row", "_law_rest", "_law_k", "_law_part_here"] ["_law_told", "_law_row"] (defScope sLawFits) := ⟨rfl, rfl, rfl, by decide +kernel, rfl, by decide +kernel, by decide +kernel⟩
theorem scTimesFit : FnScope ["_law_part_here", "_law_low", "_law_high", "_law_row", "_law_k"] ["_law_part_here", "_law_low", "_law_high", "_law_row"] (defScope sLawTimesFit) := ⟨rfl, rfl, rfl, by decide +kernel, rfl, by decide +kernel, by decide +kernel⟩
theorem rows_cutTo {H : Hp} {row : KM.Row} {as : List Addr} {p : Addr} (k : Nat) (hp : H p = none) (h2 : as.length = row.length) (h3 : ∀ (i : Nat) (a : Addr) (s : List Str), as[i]? = some a → row[i]? = some s → H a = some (.lst (s.map V.str))) : RowsAt (upd H p (.lst ((as.map V.ref).take k))) p (row.take k) := by
  refine ⟨as.take k, by rw [upd_same, List.map_take], by rw [List.length_take, List.length_take, h2], fun i a s e f => ?_⟩
  rw [List.getElem?_take] at e f
  split at e
  · rw [if_pos (by assumption)] at f
    exact same_new hp _ _ _ (h3 i a s e f)
  · cases e
theorem rows_cutFrom {H : Hp} {row : KM.Row} {as : List Addr} {p : Addr} (k : Nat) (hp : H p = none) (h2 : as.length = row.length) (h3 : ∀ (i : Nat) (a : Addr) (s : List Str), as[i]? = some a → row[i]? = some s → H a = some (.lst (s.map V.str))) : RowsAt (upd H p (.lst ((as.map V.ref).drop k))) p (row.drop k) := by
  refine ⟨as.drop k, by rw [upd_same, List.map_drop], by rw [List.length_drop, List.length_drop, h2], fun i a s e f => ?_⟩
  rw [List.getElem?_drop] at e f
  exact same_new hp _ _ _ (h3 _ a s e f)
theorem ok_times_fit (T : Tx K mg N) (m : Nat) (iF : Cal P w K mg base (m + 1) "_law_fits" (spFits m) []) (iT : Cal P w K mg base (m + 1) "_law_times_fit" (spTimesFit m) []) : Cal P w K mg base (m + 2) "_law_times_fit" (spTimesFit (m + 1)) [] := by
  refine T.d_law_times_fit.cal scTimesFit (fun _ _ _ _ _ _ us hl => match us, hl with | [_, _, _, _], _ => rfl) len4 (fun f cdv A outer s H vs Q E hr h => ?_)
  obtain ⟨pv_, _, _, _, rfl, p, lo, hi, l, row, rfl, rfl, rfl, hd, hrow, h4, hm, hct, hlo, q⟩ := h
  obtain ⟨as, hl, hal, has⟩ := id hrow
  refine ⟨_, pss_cons (ps_if (pt_cmpR op_eq (pe_callB call_len_seq (by rfl) T.z_len PySem.boot_len (pa_cons (pv 3) pa_nil)) pe_int (nomark _)) (pss_one (ps_ret (pe_or (pe_cmpR op_eq (pv 1) pe_int (nomark _)) (pe_one (pe_c iF hr (by omega) rfl (pa_cons (pv 0) (pa_cons (pv 3) pa_nil))))))) pss_nil)
    (pss_cons (ps_if (pt_cmpR op_eq (pv 2) pe_int (nomark _)) (pss_one (ps_ret pe_bl)) pss_nil)
    (pss_cons (ps_for PassesOwn.never rfl (pi_range2 (by rfl) T.z_range (pa_cons pe_int (pa_cons (pe_op op_add (pe_callB call_len_seq (by rfl) T.z_len PySem.boot_len (pa_cons (pv 3) pa_nil)) pe_int) pa_nil))) (pg_name (i := 4) scTimesFit.nd rfl (Or.inl rfl))
      (pss_one (ps_if (PW.pt (pw_and (pt_val (pe_c iF hr (by omega) rfl (pa_cons (pv 0) (pa_cons (pe_slice sl_list (pv 3) po_none (po_some (pv 4))) pa_nil)))) (pw_and1 (pt_val (pe_c iT hr (by omega) rfl (pa_cons (pv 0) (pa_cons (pe_callB (call_max2 rfl) (by rfl) T.z_max (by decide +kernel) (pa_cons (pe_op op_sub (pv 1) pe_int) (pa_cons pe_int pa_nil))) (pa_cons (pe_callB (call_max2 rfl) (by rfl) T.z_max (by decide +kernel) (pa_cons (pe_op op_sub (pv 2) pe_int) (pa_cons (pe_un un_neg pe_int) pa_nil))) (pa_cons (pe_slice sl_list (pv 3) (po_some (pv 4)) po_none) pa_nil)))))))))
        (pss_one (ps_ret pe_bl)) pss_nil)))
    (pss_one (ps_ret pe_bl)))), ?_⟩
  have hln : (as.map V.ref).length = row.length := by rw [List.length_map, hal]
  refine ⟨_, rfl, l, _, rfl, .inl (SqL.of hl), rfl, _, rfl, ?_⟩
  rw [hln]
  refine ite2 (fun h0 => ?_) (fun h0 => ?_)
  · have e0 : row = [] := List.length_eq_zero_iff.mp (by have := of_decide_eq_true h0; injection this; omega)
    subst e0
    refine ⟨_, rfl, rfl, _, rfl, ?_⟩
    by_cases hz : lo = 0
    · rw [decide_eq_true (by rw [hz]; rfl)]
      refine iteT ?_
      have := q H (Same.refl _)
      rw [decide_eq_true ((times_nil hlo).mpr (.inl hz))] at this
      exact this
    · rw [decide_eq_false (fun z => by injection z; omega)]
      refine iteF ?_
      refine ⟨_, rfl, _, rfl, _, _, rfl, p, l, [], rfl, hd, hrow, by simp, by omega, hct, fun H' s' => ?_⟩
      have := q H' s'
      rw [show decide (L (.times p lo hi) []) = decide (L p []) from decide_eq_decide.mpr ((times_nil hlo).trans ⟨fun x => x.resolve_left hz, .inr⟩)] at this
      exact this
  have hne : row ≠ [] := fun z => by
    rw [z] at h0
    exact h0 (decide_eq_true rfl)
  refine ⟨_, rfl, rfl, _, rfl, ?_⟩
  refine ite2 (fun h1 => ?_) (fun h1 => ?_)
  · have z1 : hi = some 0 := by
      cases hi with
      | none => cases of_decide_eq_true h1
      | some x =>
        have := of_decide_eq_true h1
        injection this with this
        have : (x : Int) = 0 := this
        rw [show x = 0 by omega]
    have := q H (Same.refl _)
    rw [decide_eq_false (fun z => ((times_step hne).mp z).1 z1)] at this
    exact this
  have z1 : hi ≠ some 0 := fun z => by
    rw [z] at h1
    exact h1 (decide_eq_true rfl)
  refine ⟨_, rfl, l, _, rfl, .inl (SqL.of hl), _, _, rfl, rfl, 1, _, rfl, ?_, ?_⟩
  · rw [hln]
    refine ⟨by decide, by decide, by omega, by omega⟩
  rw [hln]
  refine for_range (n := ((row.length : Int) + 1 - 1).toNat) (fun i σ H' => ∃ u4, σ = [some pv_, some (.int lo), some (.int (hiI hi)), some (.ref l), u4] ∧ Same H H' ∧ ∀ k, 1 ≤ k → k < 1 + i → ¬ (L p (row.take k) ∧ L (.times p (lo - 1) (dec hi)) (row.drop k))) ?_ ?_ ?_
  · exact ⟨none, rfl, Same.refl _, fun k a b => by omega⟩
  · rintro i σ H' hi2 ⟨u4, rfl, s', no⟩
    have hir : i < row.length := by omega
    rw [show (1 + (i : Int)) = ((1 + i : Nat) : Int) by omega]
    refine ⟨_, rfl, _, rfl, _, rfl, _, rfl, l, _, rfl, SqL.of (s' _ _ hl), fun p1 h1 => ?_⟩
    rw [cut_to]
    have s1 : Same H' (upd H' p1 (.lst ((as.map V.ref).take (1 + i)))) := same_new h1 _
    have has' : ∀ (i : Nat) (a : Addr) (s : List Str), as[i]? = some a → row[i]? = some s → H' a = some (.lst (s.map V.str)) := fun i a t e f => s' _ _ (has i a t e f)
    have hd1 := (hd.fz (fz_same s')).fz (fz_same s1)
    refine ⟨_, _, rfl, p, p1, row.take (1 + i), rfl, hd1, rows_cutTo (1 + i) h1 hal has', by rw [List.length_take]; omega, by omega, hct, fun H2 s2 => ⟨_, rfl, ?_⟩⟩
    have s12 := s'.trans (s1.trans s2)
    by_cases hA : L p (row.take (1 + i))
    · rw [decide_eq_true hA]
      refine iteT ?_
      refine ⟨_, rfl, _, rfl, _, _, rfl, rfl, _, _, rfl, _, rfl, _, _, rfl, rfl, _, rfl, _, _, rfl, _, rfl, _, rfl, _, rfl, l, _, rfl, SqL.of (s12 _ _ hl), fun p3 h3 => ?_⟩
      rw [cut_from]
      have s3 := same_new h3 (.lst ((as.map V.ref).drop (1 + i)))
      have s123 := s12.trans s3
      have has2 : ∀ (i : Nat) (a : Addr) (s : List Str), as[i]? = some a → row[i]? = some s → H2 a = some (.lst (s.map V.str)) := fun i a t e f => s12 _ _ (has i a t e f)
      have hdr : (row.drop (1 + i)).length + 1 ≤ row.length := by rw [List.length_drop]; omega
      have hcl : ∀ h, dec hi = some h → lo - 1 ≤ h := fun h e => by
        cases hi with
        | none => cases e
        | some x =>
          have := hlo x rfl
          have e' : x - 1 = h := Option.some.inj e
          omega
      have ehi : (if (-1 : Int) > hiI hi - 1 then (-1 : Int) else hiI hi - 1) = hiI (dec hi) := by
        cases hi with
        | none => decide
        | some x =>
          have : x ≠ 0 := fun z => z1 (by rw [z])
          show (if (-1 : Int) > (x : Int) - 1 then (-1 : Int) else (x : Int) - 1) = ((x - 1 : Nat) : Int)
          rw [if_neg (by omega)]
          omega
      have elo : (if (0 : Int) > (lo : Int) - 1 then (0 : Int) else (lo : Int) - 1) = ((lo - 1 : Nat) : Int) := by
        split <;> omega
      refine ⟨_, _, _, _, rfl, p, lo - 1, dec hi, p3, row.drop (1 + i), congrArg V.int elo, congrArg V.int ehi, rfl, hd.fz (fz_same s123), rows_cutFrom (1 + i) h3 hal has2, by omega, by omega, hct, hcl, fun H4 s4 => ⟨_, rfl, ?_⟩⟩
      have s14 := s123.trans s4
      by_cases hB : L (.times p (lo - 1) (dec hi)) (row.drop (1 + i))
      · rw [decide_eq_true hB]
        refine iteT ?_
        have := q H4 s14
        rw [decide_eq_true ((times_step hne).mpr ⟨z1, 1 + i, by omega, by omega, hA, hB⟩)] at this
        exact this
      · rw [decide_eq_false hB]
        refine iteF ?_
        refine ⟨_, rfl, s14, fun k k1 k2 => ?_⟩
        by_cases e : k = 1 + i
        · rw [e]; exact fun z => hB z.2
        · exact no k k1 (by omega)
    · rw [decide_eq_false hA]
      refine iteF ?_
      refine iteF ?_
      refine ⟨_, rfl, s12, fun k k1 k2 => ?_⟩
      by_cases e : k = 1 + i
      · rw [e]; exact fun z => hA z.1
      · exact no k k1 (by omega)
  · rintro σ H' ⟨u4, rfl, s', no⟩
    have := q H' s'
    rw [decide_eq_false (fun z => by
      obtain ⟨_, k, k1, k2, k3, k4⟩ := (times_step hne).mp z
      exact no k k1 (by omega) ⟨k3, k4⟩)] at this
    exact this
end
end KG
end
section
set_option Elab.async false
set_option linter.all false
set_option autoImplicit false
set_option maxRecDepth 100000
set_option maxHeartbeats 4000000
/-! ## _law_mixed_fit -/
namespace KG
open PySem PySem.Spec PyProof.Rows L2 KM
open C8 (Cal Met Mak pe_c pe_mk pe_mt pe_mt0)
open Classical
def pkG {α : Type} (c : Bool) : List Bool → List α → List α
  | b :: bs, x :: r => if b = c then x :: pkG c bs r else pkG c bs r
  | _, _ => []
theorem pkG_true : ∀ (bs : List Bool) (row : KM.Row), pkG true bs row = pickB bs row
  | [], r => by rw [pkG, pickB] <;> intros <;> contradiction
  | b :: bs, [] => by cases b <;> rfl
  | true :: bs, x :: r => by rw [pkG, pickB, if_pos rfl, pkG_true bs r]
  | false :: bs, x :: r => by rw [pkG, pickB, if_neg (by decide), pkG_true bs r]
theorem pkG_false : ∀ (bs : List Bool) (row : KM.Row), pkG false bs row = dropB bs row
  | [], r => by rw [pkG, dropB] <;> intros <;> contradiction
  | b :: bs, [] => by cases b <;> rfl
  | false :: bs, x :: r => by rw [pkG, dropB, if_pos rfl, pkG_false bs r]
  | true :: bs, x :: r => by rw [pkG, dropB, if_neg (by decide), pkG_false bs r]
theorem pkG_next {α : Type} {c : Bool} : ∀ {bs : List Bool} {xs : List α} {j : Nat} {b : Bool} {x : α}, bs[j]? = some b → xs[j]? = some x → pkG c (bs.take (j + 1)) (xs.take (j + 1)) = pkG c (bs.take j) (xs.take j) ++ (if b = c then [x] else [])
  | b :: bs, x :: xs, 0, b', x', e, f => by
    cases e; cases f
    show (if b = c then x :: pkG c (bs.take 0) (xs.take 0) else pkG c (bs.take 0) (xs.take 0)) = pkG c [] [] ++ _
    simp only [List.take_zero]
    rw [show pkG c ([] : List Bool) ([] : List α) = [] from rfl, List.nil_append]
  | b :: bs, x :: xs, j + 1, b', x', e, f => by
    have ih := pkG_next (c := c) (bs := bs) (xs := xs) (j := j) e f
    show (if b = c then x :: pkG c (bs.take (j + 1)) (xs.take (j + 1)) else pkG c (bs.take (j + 1)) (xs.take (j + 1))) = (if b = c then x :: pkG c (bs.take j) (xs.take j) else pkG c (bs.take j) (xs.take j)) ++ _
    rw [ih]
    by_cases h : b = c
    · rw [if_pos h, if_pos h, List.cons_append]
    · rw [if_neg h, if_neg h]
  | [], _, _, _, _, e, _ => by simp at e
  | _ :: _, [], _, _, _, _, f => by simp at f
theorem pkG_rel {α β : Type} {Pr : α → β → Prop} {c : Bool} : ∀ {bs : List Bool} {xs : List α} {ys : List β}, xs.length = ys.length → (∀ (i : Nat) (a : α) (s : β), xs[i]? = some a → ys[i]? = some s → Pr a s) → (pkG c bs xs).length = (pkG c bs ys).length ∧ ∀ (i : Nat) (a : α) (s : β), (pkG c bs xs)[i]? = some a → (pkG c bs ys)[i]? = some s → Pr a s
  | [], xs, ys, _, _ => by
    have h1 : pkG c ([] : List Bool) xs = [] := by rw [pkG]; intros; contradiction
    have h2 : pkG c ([] : List Bool) ys = [] := by rw [pkG]; intros; contradiction
    rw [h1, h2]
    exact ⟨rfl, fun i a s e _ => by simp at e⟩
  | b :: bs, [], [], _, _ => ⟨rfl, fun i a s e _ => by simp [pkG] at e⟩
  | b :: bs, x :: xs, y :: ys, h, k => by
    obtain ⟨i1, i2⟩ := pkG_rel (Pr := Pr) (c := c) (bs := bs) (xs := xs) (ys := ys) (by simpa using h) fun i a s e f => k (i + 1) a s e f
    rw [pkG, pkG]
    by_cases hb : b = c
    · rw [if_pos hb, if_pos hb]
      refine ⟨by rw [List.length_cons, List.length_cons, i1], fun i a s e f => ?_⟩
      cases i with
      | zero => cases e; cases f; exact k 0 _ _ rfl rfl
      | succ i => exact i2 i a s e f
    · rw [if_neg hb, if_neg hb]
      exact ⟨i1, i2⟩
  | _ :: _, [], _ :: _, h, _ => by simp at h
  | _ :: _, _ :: _, [], h, _ => by simp at h
theorem pkG_len {α : Type} {c : Bool} : ∀ (bs : List Bool) (xs : List α), (pkG c bs xs).length ≤ xs.length
  | [], xs => by
    have h1 : pkG c ([] : List Bool) xs = [] := by rw [pkG]; intros; contradiction
    rw [h1]; simp
  | b :: bs, [] => by simp [pkG]
  | b :: bs, x :: xs => by
    have := pkG_len (c := c) bs xs
    rw [pkG]
    split <;> simp <;> omega
/-- the marks of a number -/
def bitsOf (n m : Nat) : List Bool := (List.range n).map fun k => decide (m / 2 ^ k % 2 = 1)
theorem bits_all : ∀ (bs : List Bool), bs.length ≤ 4 → ∃ m, m < 2 ^ bs.length ∧ bitsOf bs.length m = bs
  | [], _ => ⟨0, by decide, rfl⟩
  | [a], _ => by cases a; exact ⟨0, by decide, rfl⟩; exact ⟨1, by decide, rfl⟩
  | [a, b], _ => by cases a <;> cases b; exact ⟨0, by decide, rfl⟩; exact ⟨2, by decide, rfl⟩; exact ⟨1, by decide, rfl⟩; exact ⟨3, by decide, rfl⟩
  | [a, b, c], _ => by
    cases a <;> cases b <;> cases c
    exact ⟨0, by decide, rfl⟩; exact ⟨4, by decide, rfl⟩; exact ⟨2, by decide, rfl⟩; exact ⟨6, by decide, rfl⟩
    exact ⟨1, by decide, rfl⟩; exact ⟨5, by decide, rfl⟩; exact ⟨3, by decide, rfl⟩; exact ⟨7, by decide, rfl⟩
  | [a, b, c, d], _ => by
    cases a <;> cases b <;> cases c <;> cases d
    exact ⟨0, by decide, rfl⟩; exact ⟨8, by decide, rfl⟩; exact ⟨4, by decide, rfl⟩; exact ⟨12, by decide, rfl⟩
    exact ⟨2, by decide, rfl⟩; exact ⟨10, by decide, rfl⟩; exact ⟨6, by decide, rfl⟩; exact ⟨14, by decide, rfl⟩
    exact ⟨1, by decide, rfl⟩; exact ⟨9, by decide, rfl⟩; exact ⟨5, by decide, rfl⟩; exact ⟨13, by decide, rfl⟩
    exact ⟨3, by decide, rfl⟩; exact ⟨11, by decide, rfl⟩; exact ⟨7, by decide, rfl⟩; exact ⟨15, by decide, rfl⟩
  | _ :: _ :: _ :: _ :: _ :: _, h => by simp at h
theorem cut1 (xs : List V) : cutV xs (some 1) none = xs.drop 1 := cut_from xs 1
theorem cut1_ne {xs : List V} (h : 0 < xs.length) : ¬ (HT.sIx xs.length 0 (some 1) = 0 ∧ HT.sIx xs.length xs.length none = xs.length) := cut_ne_from (i := 0) h
section
variable {P : Program} {w : World} {K : PySem.W.Frag} {mg : Str → Option Value} {base : Heap} {N : Nm}
theorem scMixedFit : FnScope ["_law_parts", "_law_row", "_law_rest", "_law_mask", "_law_bits", "_law_mine", "_law_others", "_law_k"] ["_law_parts", "_law_row"] (defScope sLawMixedFit) := ⟨rfl, rfl, rfl, by decide +kernel, rfl, by decide +kernel, by decide +kernel⟩
theorem ok_mixed_fit (T : Tx K mg N) (m : Nat) (iF : Cal P w K mg base (m + 1) "_law_fits" (spFits m) []) : Cal P w K mg base (m + 2) "_law_mixed_fit" (spMixedFit (m + 1)) [] := by
  refine T.d_law_mixed_fit.cal scMixedFit (fun _ _ _ _ _ _ us hl => match us, hl with | [_, _], _ => rfl) len2 (fun f cdv A outer s H vs Q E hr h => ?_)
  obtain ⟨_, _, rfl, ps, t, vs, l, row, rfl, rfl, ht, htl, hne, hrow, h4, hm, hct, q⟩ := h
  obtain ⟨as, hl, hal, has⟩ := id hrow
  refine ⟨_, pss_cons (ps_if (pt_cmpR op_eq (pe_callB call_len_seq (by rfl) T.z_len PySem.boot_len (pa_cons (pv 0) pa_nil)) pe_int (nomark _)) (pss_one (ps_ret (pe_c iF hr (by omega) rfl (pa_cons (pe_ix ix_tup (pv 0) pe_int (fun _ _ => rfl)) (pa_cons (pv 1) pa_nil))))) pss_nil)
    (pss_cons (ps_set (i := 2) scMixedFit.nd rfl (Or.inl rfl) (pe_tup (pa_cons pe_str (pa_cons (pe_slice sl_tup (pv 0) (po_some pe_int) po_none) pa_nil))))
    (pss_cons (ps_for PassesOwn.never rfl (pi_range1 (by rfl) T.z_range (pa_cons (pe_ix ix_list (pe_lst (pa_cons pe_int (pa_cons pe_int (pa_cons pe_int (pa_cons pe_int (pa_cons pe_int pa_nil)))))) (pe_callB call_len_seq (by rfl) T.z_len PySem.boot_len (pa_cons (pv 1) pa_nil)) (fun _ _ => rfl)) pa_nil)) (pg_name (i := 3) scMixedFit.nd rfl (Or.inr rfl))
      (pss_cons (ps_set (i := 4) scMixedFit.nd rfl (Or.inr rfl) (pe_lc (own := [("_law_k", 7)]) (g := gName 7) (tt := tYes) (te := tOp _ (tOp _ (tVar 3) (tOp (rIxL K) (tLst (tCons (tC (.int 1)) (tCons (tC (.int 2)) (tCons (tC (.int 4)) (tCons (tC (.int 8)) tNil))))) (tVar 7))) (tC (.int 2))) rfl scMixedFit.nd (pi_range1 (by rfl) T.z_range (pa_cons (pe_callB call_len_seq (by rfl) T.z_len PySem.boot_len (pa_cons (pv 1) pa_nil)) pa_nil)) (blkOk_by (N := ["_law_parts", "_law_row", "_law_rest", "_law_mask", "_law_bits", "_law_mine", "_law_others", "_law_k"]) (sc := defScope sLawMixedFit) (by decide +kernel))
        (fun _ _ _ _ _ => pg_name (i := 7) scMixedFit.nd rfl (Or.inl rfl)) (fun _ _ _ _ _ => pts_nil) (fun _ _ _ _ _ => pe_op op_mod (pe_op op_fdiv (pv 3) (pe_ix ix_list (pe_lst (pa_cons pe_int (pa_cons pe_int (pa_cons pe_int (pa_cons pe_int pa_nil))))) (pv 7) (fun _ _ => rfl))) pe_int)))
      (pss_cons (ps_setLc (i := 5) (own := [("_law_k", 7)]) (g := gName 7) (tt := tTest (tOp rEq (tOp (rIxL K) (tVar 4) (tVar 7)) (tC (.int 1)))) (te := tOp (rIxL K) (tVar 1) (tVar 7)) rfl scMixedFit.nd rfl rfl (sw_true rfl rfl rfl (by decide +kernel)) (pi_range1 (by rfl) T.z_range (pa_cons (pe_callB call_len_seq (by rfl) T.z_len PySem.boot_len (pa_cons (pv 1) pa_nil)) pa_nil)) (blkOk_by (N := ["_law_parts", "_law_row", "_law_rest", "_law_mask", "_law_bits", "_law_mine", "_law_others", "_law_k"]) (sc := defScope sLawMixedFit) (by decide +kernel))
        (fun _ _ _ _ _ => pg_name (i := 7) scMixedFit.nd rfl (Or.inl rfl)) (fun _ _ _ _ _ => pts_one (pt_cmpR op_eq (pe_ix ix_list (pv 4) (pv 7) (fun _ _ => rfl)) pe_int (nomark _))) (fun _ _ _ _ _ => pe_ix ix_list (pv 1) (pv 7) (fun _ _ => rfl)))
      (pss_cons (ps_setLc (i := 6) (own := [("_law_k", 7)]) (g := gName 7) (tt := tTest (tOp rEq (tOp (rIxL K) (tVar 4) (tVar 7)) (tC (.int 0)))) (te := tOp (rIxL K) (tVar 1) (tVar 7)) rfl scMixedFit.nd rfl rfl (sw_true rfl rfl rfl (by decide +kernel)) (pi_range1 (by rfl) T.z_range (pa_cons (pe_callB call_len_seq (by rfl) T.z_len PySem.boot_len (pa_cons (pv 1) pa_nil)) pa_nil)) (blkOk_by (N := ["_law_parts", "_law_row", "_law_rest", "_law_mask", "_law_bits", "_law_mine", "_law_others", "_law_k"]) (sc := defScope sLawMixedFit) (by decide +kernel))
        (fun _ _ _ _ _ => pg_name (i := 7) scMixedFit.nd rfl (Or.inl rfl)) (fun _ _ _ _ _ => pts_one (pt_cmpR op_eq (pe_ix ix_list (pv 4) (pv 7) (fun _ _ => rfl)) pe_int (nomark _))) (fun _ _ _ _ _ => pe_ix ix_list (pv 1) (pv 7) (fun _ _ => rfl)))
      (pss_one (ps_if (PW.pt (pw_and (pt_val (pe_c iF hr (by omega) rfl (pa_cons (pe_ix ix_tup (pv 0) pe_int (fun _ _ => rfl)) (pa_cons (pv 5) pa_nil)))) (pw_and1 (pt_val (pe_c iF hr (by omega) rfl (pa_cons (pv 2) (pa_cons (pv 6) pa_nil)))))))
        (pss_one (ps_ret pe_bl)) pss_nil))))))
    (pss_one (ps_ret pe_bl)))), ?_⟩
  obtain ⟨p, ps', rfl⟩ : ∃ p ps', ps = p :: ps' := by
    cases ps with
    | nil => exact absurd rfl hne
    | cons p ps' => exact ⟨p, ps', rfl⟩
  obtain ⟨hvl, hvg⟩ := tolds_get htl
  obtain ⟨v0, v01, v02⟩ := hvg 0 p rfl
  have hvl' : vs.length = ps'.length + 1 := by rw [hvl]; rfl
  rw [szs] at hm
  have hrowl : (as.map V.ref).length = row.length := by rw [List.length_map, hal]
  refine ⟨_, rfl, t, _, rfl, .inr (SqT.of ht), rfl, _, rfl, ?_⟩
  refine ite2 (fun h1 => ?_) (fun h1 => ?_)
  · have h1 := of_decide_eq_true h1
    injection h1 with h1
    have e0 : ps' = [] := List.length_eq_zero_iff.mp (by omega)
    subst e0
    refine ⟨_, rfl, t, _, _, _, rfl, rfl, SqT.of ht, atI_nat v01, _, rfl, _, _, rfl, p, l, row, rfl, v02, hrow, h4, by omega, hct p List.mem_cons_self, fun H' s' => ?_⟩
    have := q H' s'
    rw [show decide (L (.mixed [p]) row) = decide (L p row) from decide_eq_decide.mpr mixed_one] at this
    exact this
  have hps : 1 ≤ ps'.length := by
    by_cases z : ps'.length = 0
    · exact absurd (decide_eq_true (by rw [hvl', z]; rfl)) h1
    · omega
  refine ⟨_, rfl, _, rfl, t, _, rfl, SqT.of ht, cut1_ne (by omega), fun r0 hr0 => ?_⟩
  rw [cut1]
  refine ⟨(by show 2 ≤ sizeLine; decide), fun r1 hr1 => ?_⟩
  have s01 : Same H (upd (upd H r0 (.tup (vs.drop 1))) r1 (.tup [.str (Str.ofString "mixed"), .ref r0])) := (same_new hr0 _).trans (same_new hr1 _)
  have er1 : upd (upd H r0 (.tup (vs.drop 1))) r1 (.tup [.str (Str.ofString "mixed"), .ref r0]) r1 = some (.tup [.str (Str.ofString "mixed"), .ref r0]) := upd_same
  have er0 : upd (upd H r0 (.tup (vs.drop 1))) r1 (.tup [.str (Str.ofString "mixed"), .ref r0]) r0 = some (.tup (vs.drop 1)) := (same_new hr1 _) _ _ upd_same
  generalize upd (upd H r0 (.tup (vs.drop 1))) r1 (.tup [.str (Str.ofString "mixed"), .ref r0]) = H1 at *
  have drest : DAt H1 (toldD (.mixed ps')) (.ref r1) := by
    rw [toldD, DAt]
    refine ⟨r1, _, rfl, er1, ?_⟩
    rw [DAts, DAts, DAts, DAt, DAt]
    refine ⟨rfl, ⟨r0, _, rfl, er0, ?_⟩, trivial⟩
    have := htl.fz (fz_same s01)
    match vs, this with
    | v :: vs, this =>
      unfold ToldsAt at this
      rw [toldDs, DAts] at this
      exact this.2
    | [], this => unfold ToldsAt at this; simp [toldDs, DAts] at this
  refine ⟨(by show 5 ≤ sizeLine; decide), fun bl hbl => ?_⟩
  have s2 := same_new hbl (.lst [.int 1, .int 2, .int 4, .int 8, .int 16])
  have s02 := s01.trans s2
  refine ⟨_, rfl, l, _, rfl, .inl (SqL.of (s02 _ _ hl)), bl, _, _, .int ((2 ^ row.length : Nat) : Int), rfl, rfl, SqL.of upd_same, ?_, ?_⟩
  · rw [hrowl]
    refine atI_nat ?_
    rcases (show row.length = 0 ∨ row.length = 1 ∨ row.length = 2 ∨ row.length = 3 ∨ row.length = 4 by omega) with e | e | e | e | e <;> rw [e] <;> rfl
  have hp16 : 2 ^ row.length ≤ 16 := Nat.le_trans (Nat.pow_le_pow_right (by decide) h4) (by decide)
  generalize upd H1 bl (.lst [.int 1, .int 2, .int 4, .int 8, .int 16]) = H2 at *
  have hMi : ((2 ^ row.length : Nat) : Int) ≤ 16 := Int.ofNat_le.mpr hp16
  have hMi0 : (0 : Int) ≤ ((2 ^ row.length : Nat) : Int) := Int.natCast_nonneg _
  refine ⟨((2 ^ row.length : Nat) : Int), rfl, by omega, by omega, for_range (n := ((2 ^ row.length : Nat) : Int).toNat) (fun i σ H' => ∃ u3 u4 u5 u6, σ = [some (.ref t), some (.ref l), some (.ref r1), u3, u4, u5, u6, none] ∧ Same H2 H' ∧ ∀ m, m < i → ¬ (L p (pickB (bitsOf row.length m) row) ∧ L (.mixed ps') (dropB (bitsOf row.length m) row))) ?_ ?_ ?_⟩
  · exact ⟨none, none, none, none, rfl, Same.refl _, fun m z => by omega⟩
  · rintro i σ H3 hi ⟨u3, u4, u5, u6, rfl, s3, no⟩
    rw [Int.toNat_natCast] at hi
    rw [Int.zero_add]
    have s03 := s02.trans s3
    have hl3 := s03 _ _ hl
    -- bits
    refine ⟨_, rfl, l, _, rfl, .inl (SqL.of hl3), (row.length : Int), by rw [hrowl], by omega, by omega, fun D hD => ?_⟩
    refine rd_lc (n := (row.length : Int).toNat) walk_range yfn_eq hD (by rw [Int.toNat_natCast]; omega) (fun j y H' => y = .int ((i / 2 ^ j % 2 : Nat) : Int)) (fun j y H1 H2 z q => q) (fun _ _ => True.intro) (fun j x H' C hj y s' k' => ?_) (fun H4 acc s4 hacc hl4 hf => ?_)
    · rw [Int.toNat_natCast] at hj
      have ey : x = .int (j : Int) := by
        rw [y.2]
        show V.int (0 + (j : Int)) = _
        rw [Int.zero_add]
      subst ey
      refine ⟨_, rfl, (by show 4 ≤ sizeLine; decide), fun b hb => ⟨_, rfl, b, _, _, .int ((2 ^ j : Nat) : Int), rfl, rfl, SqL.of upd_same, atI_nat ?_, ?_⟩⟩
      · rcases (show j = 0 ∨ j = 1 ∨ j = 2 ∨ j = 3 by omega) with e | e | e | e <;> rw [e] <;> rfl
      have hj0 : 1 ≤ 2 ^ j := Nat.one_le_two_pow
      have hj4 : 2 ^ j ≤ 16 := Nat.le_trans (Nat.pow_le_pow_right (by decide) (show j ≤ 4 by omega)) (by decide)
      have hTi : (1 : Int) ≤ ((2 ^ j : Nat) : Int) := Int.ofNat_le.mpr hj0
      have hTi2 : ((2 ^ j : Nat) : Int) ≤ 16 := Int.ofNat_le.mpr hj4
      refine ⟨_, _, rfl, rfl, ⟨by omega, by omega⟩, _, _, rfl, rfl, (by show (0 : Int) < 2; decide), k' _ _ (same_new hb _) rfl⟩
    rw [Int.toNat_natCast] at hl4 hf
    have eacc : acc = (List.range row.length).map fun j => V.int ((i / 2 ^ j % 2 : Nat) : Int) := acc_range hl4 (fun j hj => by obtain ⟨y, h1, h2⟩ := hf j hj; exact ⟨y, h1, h2⟩)
    have hbit : ∀ j, j < row.length → acc[j]? = some (.int ((i / 2 ^ j % 2 : Nat) : Int)) := fun j hj => by rw [eacc, List.getElem?_map, List.getElem?_range hj]; rfl
    have hbs : ∀ j, j < row.length → (bitsOf row.length i)[j]? = some (decide (i / 2 ^ j % 2 = 1)) := fun j hj => by unfold bitsOf; rw [List.getElem?_map, List.getElem?_range hj]; rfl
    have hbl4 : (bitsOf row.length i).length = row.length := by unfold bitsOf; simp
    have s04 := s03.trans s4
    have hl4' := s04 _ _ hl
    -- mine
    refine ⟨_, rfl, l, _, rfl, .inl (SqL.of hl4'), (row.length : Int), by rw [hrowl], by omega, by omega, fun D5 hD5 => ?_⟩
    refine rd_lcT (n := (row.length : Int).toNat) walk_range yfn_eq (fun j acc5 H5 => Same H4 H5 ∧ acc5 = (pkG true ((bitsOf row.length i).take j) (as.take j)).map V.ref) ⟨same_new hD5 _, rfl⟩ (fun _ _ _ _ => True.intro) (fun j x H5 acc5 Ct Cf hj y ⟨s5, ea⟩ hacc5 hal5 kt kf => ?_) (fun H5 acc5 ⟨s5, ea⟩ hacc5 hal5 => ?_)
    · rw [Int.toNat_natCast] at hj
      have ey : x = .int (j : Int) := by
        rw [y.2]
        show V.int (0 + (j : Int)) = _
        rw [Int.zero_add]
      subst ey
      have hja : j < as.length := by omega
      refine ⟨_, rfl, _, rfl, D, _, _, _, rfl, rfl, SqL.of (s5 _ _ hacc), atI_nat (hbit j hj), rfl, _, rfl, ?_⟩
      have nx := pkG_next (c := true) (hbs j hj) (List.getElem?_eq_getElem hja)
      by_cases hb : i / 2 ^ j % 2 = 1
      · rw [decide_eq_true (show V.int ((i / 2 ^ j % 2 : Nat) : Int) = V.int 1 by rw [hb]; rfl)]
        refine iteT ?_
        rw [decide_eq_true hb, if_pos rfl] at nx
        refine ⟨_, rfl, _, rfl, l, _, _, _, rfl, rfl, SqL.of (s5 _ _ hl4'), atI_nat (j := j) (v := .ref as[j]) (by rw [List.getElem?_map, List.getElem?_eq_getElem hja]; rfl), ?_⟩
        refine kt _ H5 hacc5 (by rw [sizeLine_eq]; omega) ⟨fun b o e => ?_, ?_⟩
        · rw [upd_ne (ne_of_none e hD5)]
          exact s5 _ _ e
        · rw [nx, List.map_append, ← ea]
          rfl
      · rw [decide_eq_false (show ¬ V.int ((i / 2 ^ j % 2 : Nat) : Int) = V.int 1 from fun z => by injection z with z; exact hb (by omega))]
        refine iteF ?_
        rw [decide_eq_false hb, if_neg (by decide), List.append_nil] at nx
        exact kf H5 hacc5 ⟨s5, by rw [nx]; exact ea⟩
    rw [Int.toNat_natCast, List.take_of_length_le (by omega), List.take_of_length_le (by omega)] at ea
    have s05 := s04.trans s5
    have hl5' := s05 _ _ hl
    have hacc5' := s5 _ _ hacc
    -- others
    refine ⟨_, rfl, l, _, rfl, .inl (SqL.of hl5'), (row.length : Int), by rw [hrowl], by omega, by omega, fun D6 hD6 => ?_⟩
    refine rd_lcT (n := (row.length : Int).toNat) walk_range yfn_eq (fun j acc6 H6 => Same H5 H6 ∧ acc6 = (pkG false ((bitsOf row.length i).take j) (as.take j)).map V.ref) ⟨same_new hD6 _, rfl⟩ (fun _ _ _ _ => True.intro) (fun j x H6 acc6 Ct Cf hj y ⟨s6, ea6⟩ hacc6 hal6 kt kf => ?_) (fun H6 acc6 ⟨s6, ea6⟩ hacc6 hal6 => ?_)
    · rw [Int.toNat_natCast] at hj
      have ey : x = .int (j : Int) := by
        rw [y.2]
        show V.int (0 + (j : Int)) = _
        rw [Int.zero_add]
      subst ey
      have hja : j < as.length := by omega
      refine ⟨_, rfl, _, rfl, D, _, _, _, rfl, rfl, SqL.of (s6 _ _ hacc5'), atI_nat (hbit j hj), rfl, _, rfl, ?_⟩
      have nx := pkG_next (c := false) (hbs j hj) (List.getElem?_eq_getElem hja)
      by_cases hb : i / 2 ^ j % 2 = 1
      · rw [decide_eq_false (show ¬ V.int ((i / 2 ^ j % 2 : Nat) : Int) = V.int 0 from fun z => by injection z with z; omega)]
        refine iteF ?_
        rw [decide_eq_true hb, if_neg (by decide), List.append_nil] at nx
        exact kf H6 hacc6 ⟨s6, by rw [nx]; exact ea6⟩
      · rw [decide_eq_true (show V.int ((i / 2 ^ j % 2 : Nat) : Int) = V.int 0 by rw [show i / 2 ^ j % 2 = 0 by omega]; rfl)]
        refine iteT ?_
        rw [decide_eq_false hb, if_pos rfl] at nx
        refine ⟨_, rfl, _, rfl, l, _, _, _, rfl, rfl, SqL.of (s6 _ _ hl5'), atI_nat (j := j) (v := .ref as[j]) (by rw [List.getElem?_map, List.getElem?_eq_getElem hja]; rfl), ?_⟩
        refine kt _ H6 hacc6 (by rw [sizeLine_eq]; omega) ⟨fun b o e => ?_, ?_⟩
        · rw [upd_ne (ne_of_none e hD6)]
          exact s6 _ _ e
        · rw [nx, List.map_append, ← ea6]
          rfl
    rw [Int.toNat_natCast, List.take_of_length_le (by omega), List.take_of_length_le (by omega)] at ea6
    have s06 := s05.trans s6
    have has6 : ∀ (i : Nat) (a : Addr) (s : List Str), as[i]? = some a → row[i]? = some s → H6 a = some (.lst (s.map V.str)) := fun i a z e f => s06 _ _ (has i a z e f)
    obtain ⟨m1, m2⟩ := pkG_rel (Pr := fun a (s : List Str) => H6 a = some (.lst (s.map V.str))) (c := true) (bs := bitsOf row.length i) hal has6
    obtain ⟨o1, o2⟩ := pkG_rel (Pr := fun a (s : List Str) => H6 a = some (.lst (s.map V.str))) (c := false) (bs := bitsOf row.length i) hal has6
    have q1 := pkG_len (c := true) (bitsOf row.length i) row
    have q2 := pkG_len (c := false) (bitsOf row.length i) row
    have rmine : RowsAt H6 D5 (pickB (bitsOf row.length i) row) := by
      rw [← pkG_true]
      exact ⟨_, by rw [← ea]; exact s6 _ _ hacc5, m1, m2⟩
    have roth : RowsAt H6 D6 (dropB (bitsOf row.length i) row) := by
      rw [← pkG_false]
      exact ⟨_, by rw [← ea6]; exact hacc6, o1, o2⟩
    rw [pkG_true] at q1
    rw [pkG_false] at q2
    have fin : ∀ H7, Same H6 H7 → ¬ (L p (pickB (bitsOf row.length i) row) ∧ L (.mixed ps') (dropB (bitsOf row.length i) row)) → ∃ u3 u4 u5 u6, [some (V.ref t), some (.ref l), some (.ref r1), some (.int (i : Nat)), some (.ref D), some (.ref D5), some (.ref D6), none] = [some (.ref t), some (.ref l), some (.ref r1), u3, u4, u5, u6, none] ∧ Same H2 H7 ∧ ∀ m, m < i + 1 → ¬ (L p (pickB (bitsOf row.length m) row) ∧ L (.mixed ps') (dropB (bitsOf row.length m) row)) := fun H7 s7 nn => ⟨_, _, _, _, rfl, s3.trans (s4.trans (s5.trans (s6.trans s7))), fun m hm2 => by
      by_cases e : m = i
      · rw [e]; exact nn
      · exact no m (by omega)⟩
    refine ⟨_, rfl, t, _, _, _, rfl, rfl, SqT.of (s06 _ _ ht), atI_nat v01, _, rfl, _, _, rfl, p, D5, _, rfl, v02.fz (fz_same s06), rmine, by omega, by omega, hct p List.mem_cons_self, fun H7 s7 => ⟨_, rfl, ?_⟩⟩
    by_cases hA : L p (pickB (bitsOf row.length i) row)
    · rw [decide_eq_true hA]
      refine iteT ?_
      have s17 : Same H1 H7 := s2.trans (s3.trans (s4.trans (s5.trans (s6.trans s7))))
      refine ⟨_, rfl, _, rfl, _, _, rfl, .mixed ps', D6, _, rfl, drest.fz (fz_same s17), roth.same s7, by omega, by rw [sz]; have := sz_three p; omega, by rw [Cq]; exact fun x hx => hct x (List.mem_cons_of_mem _ hx), fun H8 s8 => ⟨_, rfl, ?_⟩⟩
      by_cases hB : L (.mixed ps') (dropB (bitsOf row.length i) row)
      · rw [decide_eq_true hB]
        refine iteT ?_
        have := q H8 (s06.trans (s7.trans s8))
        rw [decide_eq_true (mixed_step.mpr ⟨bitsOf row.length i, hbl4, hA, hB⟩)] at this
        exact this
      · rw [decide_eq_false hB]
        refine iteF ?_
        exact fin H8 (s7.trans s8) fun z => hB z.2
    · rw [decide_eq_false hA]
      refine iteF ?_
      refine iteF ?_
      exact fin H7 s7 fun z => hA z.1
  · rintro σ H' ⟨u3, u4, u5, u6, rfl, s', no⟩
    rw [Int.toNat_natCast] at no
    have := q H' (s02.trans s')
    rw [decide_eq_false (fun z => by
      obtain ⟨bs, b1, b2, b3⟩ := mixed_step.mp z
      obtain ⟨m, b4, b5⟩ := bits_all bs (by omega)
      rw [b1] at b4 b5
      exact no m b4 (by rw [b5]; exact ⟨b2, b3⟩))] at this
    exact this
end
end KG
end
section
set_option Elab.async false
set_option linter.all false
set_option autoImplicit false
set_option maxRecDepth 100000
set_option maxHeartbeats 4000000
/-! ## _law_fits -/
namespace KG
open PySem PySem.Spec PyProof.Rows L2 KM
open C8 (Cal Met Mak pe_c pe_mk pe_mt pe_mt0)
open Classical
theorem kd_t (k : Kd) : decide (V.str (kwK k) = V.str (kwK k)) = true := decide_eq_true rfl
theorem kd_f {j k : Kd} (h : j ≠ k) : decide (V.str (kwK j) = V.str (kwK k)) = false := decide_eq_false fun z => h (kwK_inj (by injection z))
section
variable {P : Program} {w : World} {K : PySem.W.Frag} {mg : Str → Option Value} {base : Heap} {N : Nm}
theorem any_dec (ps : List Pat) (row : KM.Row) : (ps.map fun p => decide (L p row)).any id = decide (L (.choice ps) row) := by
  rw [Bool.eq_iff_iff, decide_eq_true_iff, L_choice, Lo_iff, List.any_map, List.any_eq_true]
  constructor
  · rintro ⟨p, hp, h⟩
    exact ⟨p, hp, of_decide_eq_true (show decide (L p row) = true from h)⟩
  · rintro ⟨p, hp, h⟩
    exact ⟨p, hp, show decide (L p row) = true from decide_eq_true h⟩
theorem len0_dec {row : KM.Row} {q : Prop} (h : q ↔ row = []) : decide (V.int ((row.length : Nat) : Int) = V.int 0) = decide q := by
  refine decide_eq_decide.mpr ⟨fun z => ?_, fun z => ?_⟩
  · injection z with z
    exact h.mpr (List.length_eq_zero_iff.mp (by omega))
  · rw [h.mp z]; rfl
theorem ok_fits1 (T : Tx K mg N) (m : Nat) (hm1 : m ≤ 1000) (iF : Cal P w K mg base (m + 1) "_law_fits" (spFits m) []) (iT : Cal P w K mg base (m + 1) "_law_times_fit" (spTimesFit m) []) (iM : Cal P w K mg base (m + 1) "_law_mixed_fit" (spMixedFit m) []) : Cal P w K mg base (m + 2) "_law_fits" (spFits (m + 1)) [] := by
  refine T.d_law_fits.cal scFits (fun _ _ _ _ _ _ us hl => match us, hl with | [_, _], _ => rfl) len2 (fun f cdv A outer s H vs Q E hr h => ?_)
  obtain ⟨pv_, _, rfl, p, l, row, rfl, hd, hrow, h4, hm, hct, q⟩ := h
  obtain ⟨as, hl, hal, has⟩ := id hrow
  obtain ⟨a, tvs, rfl, ea, hrest⟩ := told_at hd
  refine ⟨_, pss_cons (ps_if (pt_cmpR op_eq (pe_ix ix_tup (pv 0) pe_int (fun _ _ => rfl)) pe_str (nomark _)) (pss_one (ps_ret (pe_and (pe_cmpR op_eq (pe_callB call_len_seq (by rfl) T.z_len PySem.boot_len (pa_cons (pv 1) pa_nil)) pe_int (nomark _)) (pe_one (pe_cmpR op_in_seq (pe_ix ix_tup (pv 0) pe_int (fun _ _ => rfl)) (pe_ix ix_list (pv 1) pe_int (fun _ _ => rfl)) (by rfl)))))) pss_nil)
    (pss_cons (ps_if (pt_cmpR op_eq (pe_ix ix_tup (pv 0) pe_int (fun _ _ => rfl)) pe_str (nomark _)) (pss_one (ps_ret (pe_c iT hr (by omega) rfl (pa_cons (pe_ix ix_tup (pv 0) pe_int (fun _ _ => rfl)) (pa_cons (pe_ix ix_tup (pv 0) pe_int (fun _ _ => rfl)) (pa_cons (pe_ix ix_tup (pv 0) pe_int (fun _ _ => rfl)) (pa_cons (pv 1) pa_nil))))))) pss_nil)
    (pss_cons (ps_if (pt_cmpR op_eq (pe_ix ix_tup (pv 0) pe_int (fun _ _ => rfl)) pe_str (nomark _)) (pss_one (ps_ret (pe_callB (cr_any rfl) (by rfl) T.z_any (by decide +kernel) (pa_cons (pe_lc (own := [("_law_part_here", 4)]) (g := gName 4) (tt := tYes) (te := tCall (spFits m) [] C8.E0 (tCons (tVar 4) (tCons (tVar 1) tNil))) rfl scFits.nd (pi_tup (pe_ix ix_tup (pv 0) pe_int (fun _ _ => rfl))) (blkOk_by (N := ["_law_told", "_law_row", "_law_rest", "_law_k", "_law_part_here"]) (sc := defScope sLawFits) (by decide +kernel))
        (fun _ _ _ _ _ => pg_name (i := 4) scFits.nd rfl (Or.inl rfl)) (fun _ _ _ _ _ => pts_nil) (fun _ _ _ _ _ => pe_c iF hr (by omega) rfl (pa_cons (pv 4) (pa_cons (pv 1) pa_nil)))) pa_nil)))) pss_nil)
    (pss_cons (ps_if (pt_cmpR op_eq (pe_callB call_len_seq (by rfl) T.z_len PySem.boot_len (pa_cons (pe_ix ix_tup (pv 0) pe_int (fun _ _ => rfl)) pa_nil)) pe_int (nomark _)) (pss_one (ps_ret (pe_cmpR op_eq (pe_callB call_len_seq (by rfl) T.z_len PySem.boot_len (pa_cons (pv 1) pa_nil)) pe_int (nomark _)))) pss_nil)
    (pss_cons (ps_if (pt_cmpR op_eq (pe_ix ix_tup (pv 0) pe_int (fun _ _ => rfl)) pe_str (nomark _)) (pss_one (ps_ret (pe_c iM hr (by omega) rfl (pa_cons (pe_ix ix_tup (pv 0) pe_int (fun _ _ => rfl)) (pa_cons (pv 1) pa_nil))))) pss_nil)
    (pss_cons (ps_set (i := 2) scFits.nd rfl (Or.inl rfl) (pe_tup (pa_cons pe_str (pa_cons (pe_slice sl_tup (pe_ix ix_tup (pv 0) pe_int (fun _ _ => rfl)) (po_some pe_int) po_none) pa_nil))))
    (pss_cons (ps_for PassesOwn.never rfl (pi_range1 (by rfl) T.z_range (pa_cons (pe_op op_add (pe_callB call_len_seq (by rfl) T.z_len PySem.boot_len (pa_cons (pv 1) pa_nil)) pe_int) pa_nil)) (pg_name (i := 3) scFits.nd rfl (Or.inl rfl))
      (pss_one (ps_if (PW.pt (pw_and (pt_val (pe_c iF hr (by omega) rfl (pa_cons (pe_ix ix_tup (pe_ix ix_tup (pv 0) pe_int (fun _ _ => rfl)) pe_int (fun _ _ => rfl)) (pa_cons (pe_slice sl_list (pv 1) po_none (po_some (pv 3))) pa_nil)))) (pw_and1 (pt_val (pe_c iF hr (by omega) rfl (pa_cons (pv 2) (pa_cons (pe_slice sl_list (pv 1) (po_some (pv 3)) po_none) pa_nil)))))))
        (pss_one (ps_ret pe_bl)) pss_nil)))
    (pss_one (ps_ret pe_bl)))))))), ?_⟩
  have hrowl : (as.map V.ref).length = row.length := by rw [List.length_map, hal]
  refine ⟨_, rfl, a, _, _, _, rfl, rfl, SqT.of ea, at0, rfl, _, rfl, ?_⟩
  cases p with
  | one x =>
    show if decide (V.str (kwK .one) = V.str (kwK .one)) = true then _ else _
    rw [kd_t]
    refine iteT ?_
    obtain ⟨y, e1, e2⟩ := dats1 hrest
    subst e1
    rw [DAt] at e2
    subst e2
    refine ⟨_, rfl, l, _, rfl, .inl (SqL.of hl), rfl, _, rfl, ?_⟩
    rw [hrowl]
    have q0 := q H (Same.refl _)
    by_cases h1 : row.length = 1
    · rw [decide_eq_true (show V.int ((row.length : Nat) : Int) = V.int 1 by rw [h1]; rfl)]
      refine iteT ?_
      match row, h1, has, q0 with
      | [fs], _, has, q0 =>
        match as, hal, has, hl with
        | [a0], _, has, hl =>
          refine ⟨_, rfl, a, _, _, _, rfl, rfl, SqT.of ea, at1, _, rfl, l, _, _, _, rfl, rfl, SqL.of hl, at0, a0, _, rfl, .inl (SqL.of (has 0 a0 fs rfl rfl)), rfl, all_flat fs, ?_⟩
          rw [inV_str]
          rw [show decide (L (.one x) [fs]) = decide (x ∈ fs) from decide_eq_decide.mpr (L_one.trans ⟨fun ⟨c, e, h⟩ => by injection e with e; rw [e]; exact h, fun h => ⟨fs, rfl, h⟩⟩)] at q0
          exact q0
    · rw [decide_eq_false (show ¬ V.int ((row.length : Nat) : Int) = V.int 1 from fun z => by injection z with z; omega)]
      refine iteF ?_
      rw [decide_eq_false (fun z => by obtain ⟨c, e, _⟩ := L_one.mp z; rw [e] at h1; exact h1 rfl)] at q0
      exact q0
  | times p' lo hi =>
    show if decide (V.str (kwK .times) = V.str (kwK .one)) = true then _ else _
    rw [kd_f (by decide)]
    refine iteF ?_
    refine ⟨_, rfl, a, _, _, _, rfl, rfl, SqT.of ea, at0, rfl, _, rfl, ?_⟩
    show if decide (V.str (kwK .times) = V.str (kwK .times)) = true then _ else _
    rw [kd_t]
    refine iteT ?_
    obtain ⟨x, y, z, e1, e2, e3, e4⟩ := dats3 hrest
    subst e1
    rw [DAt] at e3 e4
    subst e3 e4
    rw [sz] at hm
    rw [Cq] at hct
    exact ⟨_, rfl, a, _, _, _, rfl, rfl, SqT.of ea, at1, _, rfl, a, _, _, _, rfl, rfl, SqT.of ea, at2, _, rfl, a, _, _, _, rfl, rfl, SqT.of ea, at3, _, rfl, _, _, _, _, rfl, p', lo, hi, l, row, rfl, rfl, rfl, e2, hrow, h4, by omega, hct.1, hct.2, q⟩
  | choice ps =>
    show if decide (V.str (kwK .choice) = V.str (kwK .one)) = true then _ else _
    rw [kd_f (by decide)]
    refine iteF ?_
    refine ⟨_, rfl, a, _, _, _, rfl, rfl, SqT.of ea, at0, rfl, _, rfl, ?_⟩
    show if decide (V.str (kwK .choice) = V.str (kwK .times)) = true then _ else _
    rw [kd_f (by decide)]
    refine iteF ?_
    refine ⟨_, rfl, a, _, _, _, rfl, rfl, SqT.of ea, at0, rfl, _, rfl, ?_⟩
    show if decide (V.str (kwK .choice) = V.str (kwK .choice)) = true then _ else _
    rw [kd_t]
    refine iteT ?_
    obtain ⟨y, e1, e2⟩ := dats1 hrest
    subst e1
    rw [DAt] at e2
    obtain ⟨tb, zs, rfl, etb, hzs⟩ := e2
    obtain ⟨hzl, hzg⟩ := tolds_get (ps := ps) hzs
    rw [sz] at hm
    rw [Cq] at hct
    have psl : ps.length ≤ m := by have := szs_len ps; omega
    refine ⟨_, rfl, a, _, _, _, rfl, rfl, SqT.of ea, at1, tb, rfl, ⟨_, SqT.of etb⟩, fun D hD => ?_⟩
    refine rd_lc walk_tup yat_eq hD (by omega) (fun j y H' => ∃ p, ps[j]? = some p ∧ y = .bl (decide (L p row))) (fun j y H1 H2 z q => q) (fun H' s' => SqT.of (s' _ _ etb)) (fun j x H' C hj y s' k' => ?_) (fun H' acc s' hacc hl2 hf => ?_)
    · have hjp : j < ps.length := by omega
      obtain ⟨v, v1, v2⟩ := hzg j _ (List.getElem?_eq_getElem hjp)
      have hx := y.2
      rw [v1] at hx
      cases hx
      have hm' := List.getElem_mem hjp
      have := szs_mem hm'
      exact ⟨_, rfl, _, rfl, _, _, rfl, ps[j], l, row, rfl, v2.fz (fz_same s'), hrow.same s', h4, by omega, hct _ hm', fun H4 s5 => k' _ H4 s5 ⟨_, List.getElem?_eq_getElem hjp, rfl⟩⟩
    · have e6 : acc = (ps.map fun p => decide (L p row)).map V.bl := by
        rw [List.map_map]
        exact acc_map (f := V.bl ∘ fun p => decide (L p row)) hzl hl2 hf
      refine ⟨D, ps.map fun p => decide (L p row), rfl, SqL.of (by rw [← e6]; exact hacc), ?_⟩
      rw [any_dec]
      exact q H' s'
  | chain ps =>
    show if decide (V.str (kwK .chain) = V.str (kwK .one)) = true then _ else _
    rw [kd_f (by decide)]
    refine iteF ?_
    refine ⟨_, rfl, a, _, _, _, rfl, rfl, SqT.of ea, at0, rfl, _, rfl, ?_⟩
    show if decide (V.str (kwK .chain) = V.str (kwK .times)) = true then _ else _
    rw [kd_f (by decide)]
    refine iteF ?_
    refine ⟨_, rfl, a, _, _, _, rfl, rfl, SqT.of ea, at0, rfl, _, rfl, ?_⟩
    show if decide (V.str (kwK .chain) = V.str (kwK .choice)) = true then _ else _
    rw [kd_f (by decide)]
    refine iteF ?_
    obtain ⟨y, e1, e2⟩ := dats1 hrest
    subst e1
    rw [DAt] at e2
    obtain ⟨tb, zs, rfl, etb, hzs⟩ := e2
    obtain ⟨hzl, hzg⟩ := tolds_get (ps := ps) hzs
    rw [sz] at hm
    rw [Cq] at hct
    refine ⟨_, rfl, a, _, _, _, rfl, rfl, SqT.of ea, at1, tb, _, rfl, .inr (SqT.of etb), rfl, _, rfl, ?_⟩
    cases ps with
    | nil =>
      rw [decide_eq_true (show V.int ((zs.length : Nat) : Int) = V.int 0 by rw [hzl]; rfl)]
      refine iteT ?_
      refine ⟨_, rfl, l, _, rfl, .inl (SqL.of hl), rfl, ?_⟩
      rw [hrowl, len0_dec (L_chain.trans Lc_nil)]
      exact q H (Same.refl _)
    | cons p ps' =>
      rw [decide_eq_false (show ¬ V.int ((zs.length : Nat) : Int) = V.int 0 from fun z => by injection z with z; rw [hzl] at z; simp at z; omega)]
      refine iteF ?_
      refine ⟨_, rfl, a, _, _, _, rfl, rfl, SqT.of ea, at0, rfl, _, rfl, ?_⟩
      show if decide (V.str (kwK .chain) = V.str (kwK .mixed)) = true then _ else _
      rw [kd_f (by decide)]
      refine iteF ?_
      rw [szs] at hm
      have h3 := sz_three p
      have hzl' : zs.length = ps'.length + 1 := by rw [hzl]; rfl
      obtain ⟨v0, v01, v02⟩ := hzg 0 p rfl
      refine ⟨_, rfl, a, _, _, _, rfl, rfl, SqT.of ea, at1, _, rfl, tb, _, rfl, SqT.of etb, cut1_ne (by omega), fun r0 hr0 => ?_⟩
      rw [cut1]
      refine ⟨(by show 2 ≤ sizeLine; decide), fun r1 hr1 => ?_⟩
      have s01 : Same H (upd (upd H r0 (.tup (zs.drop 1))) r1 (.tup [.str (Str.ofString "chain"), .ref r0])) := (same_new hr0 _).trans (same_new hr1 _)
      have er1 : upd (upd H r0 (.tup (zs.drop 1))) r1 (.tup [.str (Str.ofString "chain"), .ref r0]) r1 = some (.tup [.str (Str.ofString "chain"), .ref r0]) := upd_same
      have er0 : upd (upd H r0 (.tup (zs.drop 1))) r1 (.tup [.str (Str.ofString "chain"), .ref r0]) r0 = some (.tup (zs.drop 1)) := (same_new hr1 _) _ _ upd_same
      generalize upd (upd H r0 (.tup (zs.drop 1))) r1 (.tup [.str (Str.ofString "chain"), .ref r0]) = H1 at *
      have drest : DAt H1 (toldD (.chain ps')) (.ref r1) := by
        rw [toldD, DAt]
        refine ⟨r1, _, rfl, er1, ?_⟩
        rw [DAts, DAts, DAts, DAt, DAt]
        refine ⟨rfl, ⟨r0, _, rfl, er0, ?_⟩, trivial⟩
        have := DAts.fz (fz_same s01) hzs
        match zs, this with
        | v :: zs, this =>
          rw [toldDs, DAts] at this
          exact this.2
        | [], this => simp [toldDs, DAts] at this
      refine ⟨_, rfl, l, _, rfl, .inl (SqL.of (s01 _ _ hl)), _, _, rfl, rfl, ((row.length : Int) + 1), by rw [hrowl], by omega, by omega, for_range (n := ((row.length : Int) + 1).toNat) (fun i σ H' => ∃ u3, σ = [some (.ref a), some (.ref l), some (.ref r1), u3, none] ∧ Same H1 H' ∧ ∀ k, k < i → ¬ (L p (row.take k) ∧ L (.chain ps') (row.drop k))) ?_ ?_ ?_⟩
      · exact ⟨none, rfl, Same.refl _, fun k z => by omega⟩
      · rintro i σ H2 hi ⟨u3, rfl, s2, no⟩
        have hir : i < row.length + 1 := by omega
        rw [Int.zero_add]
        have s02 := s01.trans s2
        refine ⟨_, rfl, a, _, _, _, rfl, rfl, SqT.of (s02 _ _ ea), at1, tb, _, _, _, rfl, rfl, SqT.of (s02 _ _ etb), atI_nat v01, _, rfl, _, rfl, _, rfl, l, _, rfl, SqL.of (s02 _ _ hl), fun p1 h1 => ?_⟩
        rw [cut_to]
        have s3 : Same H2 (upd H2 p1 (.lst ((as.map V.ref).take i))) := same_new h1 _
        have has2 : ∀ (i : Nat) (a : Addr) (s : List Str), as[i]? = some a → row[i]? = some s → H2 a = some (.lst (s.map V.str)) := fun i a t e f => s02 _ _ (has i a t e f)
        have fin : ∀ H7, Same H2 H7 → ¬ (L p (row.take i) ∧ L (.chain ps') (row.drop i)) → ∃ u3, [some (V.ref a), some (.ref l), some (.ref r1), some (.int (i : Nat)), none] = [some (.ref a), some (.ref l), some (.ref r1), u3, none] ∧ Same H1 H7 ∧ ∀ k, k < i + 1 → ¬ (L p (row.take k) ∧ L (.chain ps') (row.drop k)) := fun H7 s7 nn => ⟨_, rfl, s2.trans s7, fun k hk => by
          by_cases e : k = i
          · rw [e]; exact nn
          · exact no k (by omega)⟩
        refine ⟨_, _, rfl, p, p1, row.take i, rfl, v02.fz (fz_same (s02.trans s3)), rows_cutTo i h1 hal has2, by rw [List.length_take]; omega, by omega, hct p List.mem_cons_self, fun H4 s4 => ⟨_, rfl, ?_⟩⟩
        have s24 := s3.trans s4
        by_cases hA : L p (row.take i)
        · rw [decide_eq_true hA]
          refine iteT ?_
          refine ⟨_, rfl, _, rfl, _, rfl, _, rfl, l, _, rfl, SqL.of ((s02.trans s24) _ _ hl), fun p3 h3 => ?_⟩
          rw [cut_from]
          have s5 := same_new h3 (.lst ((as.map V.ref).drop i))
          have has4 : ∀ (i : Nat) (a : Addr) (s : List Str), as[i]? = some a → row[i]? = some s → H4 a = some (.lst (s.map V.str)) := fun i a t e f => (s02.trans s24) _ _ (has i a t e f)
          refine ⟨_, _, rfl, .chain ps', p3, row.drop i, rfl, drest.fz (fz_same (s2.trans (s24.trans s5))), rows_cutFrom i h3 hal has4, by rw [List.length_drop]; omega, by rw [sz]; omega, by rw [Cq]; exact fun x hx => hct x (List.mem_cons_of_mem _ hx), fun H6 s6 => ⟨_, rfl, ?_⟩⟩
          by_cases hB : L (.chain ps') (row.drop i)
          · rw [decide_eq_true hB]
            refine iteT ?_
            have := q H6 (s02.trans (s24.trans (s5.trans s6)))
            rw [decide_eq_true (chain_step.mpr ⟨i, by omega, hA, hB⟩)] at this
            exact this
          · rw [decide_eq_false hB]
            refine iteF ?_
            exact fin H6 (s24.trans (s5.trans s6)) fun z => hB z.2
        · rw [decide_eq_false hA]
          refine iteF ?_
          refine iteF ?_
          exact fin H4 s24 fun z => hA z.1
      · rintro σ H' ⟨u3, rfl, s', no⟩
        have := q H' (s01.trans s')
        rw [decide_eq_false (fun z => by
          obtain ⟨k, k1, k2, k3⟩ := chain_step.mp z
          exact no k (by omega) ⟨k2, k3⟩)] at this
        exact this
  | mixed ps =>
    show if decide (V.str (kwK .mixed) = V.str (kwK .one)) = true then _ else _
    rw [kd_f (by decide)]
    refine iteF ?_
    refine ⟨_, rfl, a, _, _, _, rfl, rfl, SqT.of ea, at0, rfl, _, rfl, ?_⟩
    show if decide (V.str (kwK .mixed) = V.str (kwK .times)) = true then _ else _
    rw [kd_f (by decide)]
    refine iteF ?_
    refine ⟨_, rfl, a, _, _, _, rfl, rfl, SqT.of ea, at0, rfl, _, rfl, ?_⟩
    show if decide (V.str (kwK .mixed) = V.str (kwK .choice)) = true then _ else _
    rw [kd_f (by decide)]
    refine iteF ?_
    obtain ⟨y, e1, e2⟩ := dats1 hrest
    subst e1
    rw [DAt] at e2
    obtain ⟨tb, zs, rfl, etb, hzs⟩ := e2
    obtain ⟨hzl, hzg⟩ := tolds_get (ps := ps) hzs
    rw [sz] at hm
    rw [Cq] at hct
    refine ⟨_, rfl, a, _, _, _, rfl, rfl, SqT.of ea, at1, tb, _, rfl, .inr (SqT.of etb), rfl, _, rfl, ?_⟩
    cases ps with
    | nil =>
      rw [decide_eq_true (show V.int ((zs.length : Nat) : Int) = V.int 0 by rw [hzl]; rfl)]
      refine iteT ?_
      refine ⟨_, rfl, l, _, rfl, .inl (SqL.of hl), rfl, ?_⟩
      rw [hrowl, len0_dec (L_mixed.trans Lm_nil)]
      exact q H (Same.refl _)
    | cons p ps' =>
      rw [decide_eq_false (show ¬ V.int ((zs.length : Nat) : Int) = V.int 0 from fun z => by injection z with z; rw [hzl] at z; simp at z; omega)]
      refine iteF ?_
      refine ⟨_, rfl, a, _, _, _, rfl, rfl, SqT.of ea, at0, rfl, _, rfl, ?_⟩
      show if decide (V.str (kwK .mixed) = V.str (kwK .mixed)) = true then _ else _
      rw [kd_t]
      refine iteT ?_
      exact ⟨_, rfl, a, _, _, _, rfl, rfl, SqT.of ea, at1, _, rfl, _, _, rfl, p :: ps', tb, zs, l, row, rfl, rfl, etb, hzs, (by simp), hrow, h4, by omega, hct, q⟩
theorem cal_no {x : Str} {st : Stmt} {ps : List Str} {sp : Sp} {k : Nat} (T : DefT K mg x st) (b : Bnd x x st ps) (no : ∀ vs H Q E, ¬ sp vs H Q E) : Cal P w K mg base k x sp [] := by
  obtain ⟨f, fd, F, m⟩ := T.ex
  exact ⟨f, fd, ps, [], ⟨fun vs H Q E h => absurd h (no vs H Q E), fun A outer s H args us vs Q E _ _ _ _ h => absurd h (no vs H Q E)⟩, m, F.kp, F.bindsN b, .nil⟩
theorem ok_fit (T : Tx K mg N) : ∀ m : Nat, m ≤ 1000 → Cal P w K mg base (m + 1) "_law_fits" (spFits m) [] ∧ Cal P w K mg base (m + 1) "_law_times_fit" (spTimesFit m) [] ∧ Cal P w K mg base (m + 1) "_law_mixed_fit" (spMixedFit m) []
  | 0, _ => ⟨cal_no T.d_law_fits (ps := ["_law_told", "_law_row"]) (fun _ _ _ _ _ _ us hl => match us, hl with | [_, _], _ => rfl) (by
      rintro vs H Q E ⟨_, _, _, p, _, _, _, _, _, _, h, _⟩
      have := sz_three p
      omega),
    cal_no T.d_law_times_fit (ps := ["_law_part_here", "_law_low", "_law_high", "_law_row"]) (fun _ _ _ _ _ _ us hl => match us, hl with | [_, _, _, _], _ => rfl) (by
      rintro vs H Q E ⟨_, _, _, _, _, p, _, _, _, _, _, _, _, _, _, _, h, _⟩
      have := sz_three p
      omega),
    cal_no T.d_law_mixed_fit (ps := ["_law_parts", "_law_row"]) (fun _ _ _ _ _ _ us hl => match us, hl with | [_, _], _ => rfl) (by
      rintro vs H Q E ⟨_, _, _, _, _, _, _, _, _, _, _, _, _, _, _, h, _⟩
      omega)⟩
  | m + 1, h => by
    obtain ⟨a, b, c⟩ := ok_fit T m (by omega)
    exact ⟨ok_fits1 T m (by omega) a b c, ok_times_fit T m a b, ok_mixed_fit T m a⟩
end
end KG
end
section
set_option Elab.async false
set_option linter.all false
set_option autoImplicit false
set_option maxRecDepth 100000
set_option maxHeartbeats 4000000
/-! ## _law_near: the plain part -/
namespace KG
open PySem PySem.Spec PyProof.Rows L2 KM
open C8 (Cal Met Mak pe_c pe_mk pe_mt pe_mt0)
abbrev intsV (js : List Nat) : List V := js.map fun (n : Nat) => V.int (n : Int)
theorem none_same {H H' : Hp} {p : Addr} (s : Same H H') (h : H' p = none) : H p = none := by
  cases e : H p with
  | none => rfl
  | some o => rw [s p o e] at h; cases h
/-- the children of a document, by their numbers -/
def KRel (ds : List Doc) (i : Nat) (js : List Nat) (cs : List Doc) : Prop := (∀ j ∈ js, j < i) ∧ cs.map some = js.map fun j => ds[j]?
theorem KRel.len {ds : List Doc} {i : Nat} {js : List Nat} {cs : List Doc} (h : KRel ds i js cs) : cs.length = js.length := by
  have := congrArg List.length h.2
  rw [List.length_map, List.length_map] at this
  exact this
theorem KRel.get {ds : List Doc} {i : Nat} {js : List Nat} {cs : List Doc} (h : KRel ds i js cs) {m j : Nat} (hm : js[m]? = some j) : ∃ c, cs[m]? = some c ∧ ds[j]? = some c := by
  have e := congrArg (fun l => l[m]?) h.2
  have e : (cs.map some)[m]? = (js.map fun j => ds[j]?)[m]? := e
  rw [List.getElem?_map, List.getElem?_map, hm] at e
  cases hc : cs[m]? with
  | none => rw [hc] at e; cases e
  | some c =>
    rw [hc] at e
    exact ⟨c, rfl, (Option.some.inj e).symm⟩
theorem KRel.app {ds : List Doc} {i : Nat} {js : List Nat} {cs : List Doc} (h : KRel ds i js cs) (hi : i ≤ ds.length) (d : Doc) : KRel (ds ++ [d]) i js cs := ⟨h.1, by
  rw [h.2]
  refine List.map_congr_left fun j hj => ?_
  rw [List.getElem?_append_left (by have := h.1 j hj; omega)]⟩
theorem KRel.snoc {ds : List Doc} {i : Nat} {js : List Nat} {cs : List Doc} (h : KRel ds i js cs) {j : Nat} {d : Doc} (hj : j < i) (hd : ds[j]? = some d) : KRel ds i (js ++ [j]) (cs ++ [d]) := ⟨fun x hx => by
  rcases List.mem_append.mp hx with hx | hx
  · exact h.1 x hx
  · rw [List.mem_singleton.mp hx]; exact hj, by
  rw [List.map_append, List.map_append, h.2, List.map_singleton, List.map_singleton, hd]⟩
theorem KRel.nil {ds : List Doc} {i : Nat} : KRel ds i [] [] := ⟨fun _ h => (by cases h), rfl⟩
structure NearP (ds : List Doc) (kss : List (List Nat)) : Prop where
  len : kss.length = ds.length
  rel : ∀ (i : Nat) (js : List Nat) (d : Doc), kss[i]? = some js → ds[i]? = some d → KRel ds i js d.kids ∧ js.length ≤ 4
  siz : ∀ d ∈ ds, siz d ≤ 40
theorem NearP.nil : NearP [] [] := ⟨rfl, fun i js d e _ => by simp at e, fun d h => by cases h⟩
theorem NearP.snoc {ds : List Doc} {kss : List (List Nat)} (h : NearP ds kss) {js : List Nat} {cs : List Doc} (k : KRel ds ds.length js cs) (h4 : js.length ≤ 4) (h40 : sizs cs + 1 ≤ 40) (nm : Str) : NearP (ds ++ [.mk nm cs]) (kss ++ [js]) := by
  have hl := h.len
  refine ⟨by rw [List.length_append, List.length_append, h.len]; rfl, fun i js' d e1 e2 => ?_, fun d hd => ?_⟩
  · by_cases hi : i < ds.length
    · rw [List.getElem?_append_left hi] at e2
      rw [List.getElem?_append_left (by omega)] at e1
      obtain ⟨a, b⟩ := h.rel i js' d e1 e2
      exact ⟨a.app (by omega) _, b⟩
    · have : i = ds.length := by
        have := (List.getElem?_eq_some_iff.mp e2).1
        rw [List.length_append] at this
        simp at this
        omega
      subst this
      rw [List.getElem?_append_right (Nat.le_refl _), Nat.sub_self] at e2
      rw [List.getElem?_append_right (by omega), hl, Nat.sub_self] at e1
      have e2 : Doc.mk nm cs = d := Option.some.inj e2
      have e1 : js = js' := Option.some.inj e1
      subst e1 e2
      exact ⟨k.app (Nat.le_refl _) _, h4⟩
  · rcases List.mem_append.mp hd with hd | hd
    · exact h.siz d hd
    · rw [List.mem_singleton.mp hd, KG.siz]; omega
/-- the four lists that are made -/
structure NearH (H : Hp) (dl kl ml sl : Addr) (dvs : List V) (kas : List Addr) (ds : List Doc) (kss : List (List Nat)) (fs : List Str) : Prop where
  d : H dl = some (.lst dvs)
  dd : DAts H (docDs ds) dvs
  k : H kl = some (.lst (kas.map V.ref))
  kln : kas.length = kss.length
  kk : ∀ (i : Nat) (a : Addr) (js : List Nat), kas[i]? = some a → kss[i]? = some js → H a = some (.lst (intsV js)) ∧ a ≠ dl ∧ a ≠ kl ∧ a ≠ ml ∧ a ≠ sl
  m : H ml = some (.lst (fs.map V.str))
  s : H sl = some (.lst (ds.map fun d => V.int (siz d : Int)))
theorem NearH.same {H H' : Hp} {dl kl ml sl : Addr} {dvs : List V} {kas : List Addr} {ds : List Doc} {kss : List (List Nat)} {fs : List Str} (h : NearH H dl kl ml sl dvs kas ds kss fs) (s : Same H H') : NearH H' dl kl ml sl dvs kas ds kss fs :=
  ⟨s _ _ h.d, DAts.fz (fz_same s) h.dd, s _ _ h.k, h.kln, fun i a js e f => by
    obtain ⟨a1, a2⟩ := h.kk i a js e f
    exact ⟨s _ _ a1, a2⟩, s _ _ h.m, s _ _ h.s⟩
theorem NearH.snoc {H : Hp} {dl kl ml sl bl : Addr} {dvs : List V} {kas : List Addr} {ds : List Doc} {kss : List (List Nat)} {fs : List Str} {d : Doc} {v : V} {js : List Nat} {f : Str} (h : NearH H dl kl ml sl dvs kas ds kss fs) (n1 : dl ≠ kl) (n2 : dl ≠ ml) (n3 : dl ≠ sl) (n4 : kl ≠ ml) (n5 : kl ≠ sl) (n6 : ml ≠ sl)
    (hd : DAt H (docD d) v) (hb : H bl = some (.lst (intsV js))) (b1 : bl ≠ dl) (b2 : bl ≠ kl) (b3 : bl ≠ ml) (b4 : bl ≠ sl) :
    NearH (upd (upd (upd (upd H dl (.lst (dvs ++ [v]))) kl (.lst (kas.map V.ref ++ [.ref bl]))) ml (.lst (fs.map V.str ++ [.str f]))) sl (.lst ((ds.map fun d => V.int (siz d : Int)) ++ [.int (siz d : Int)]))) dl kl ml sl (dvs ++ [v]) (kas ++ [bl]) (ds ++ [d]) (kss ++ [js]) (fs ++ [f]) := by
  have z1 : Fz H (upd H dl (.lst (dvs ++ [v]))) := fz_updL h.d
  have k1 : upd H dl (.lst (dvs ++ [v])) kl = some (.lst (kas.map V.ref)) := by rw [upd_ne n1.symm]; exact h.k
  have z2 := z1.trans (fz_updL (o := .lst (kas.map V.ref ++ [.ref bl])) k1)
  have m1 : upd (upd H dl (.lst (dvs ++ [v]))) kl (.lst (kas.map V.ref ++ [.ref bl])) ml = some (.lst (fs.map V.str)) := by rw [upd_ne n4.symm, upd_ne n2.symm]; exact h.m
  have z3 := z2.trans (fz_updL (o := .lst (fs.map V.str ++ [.str f])) m1)
  have s1 : upd (upd (upd H dl (.lst (dvs ++ [v]))) kl (.lst (kas.map V.ref ++ [.ref bl]))) ml (.lst (fs.map V.str ++ [.str f])) sl = some (.lst (ds.map fun d => V.int (siz d : Int))) := by rw [upd_ne n6.symm, upd_ne n5.symm, upd_ne n3.symm]; exact h.s
  have z4 := z3.trans (fz_updL (o := .lst ((ds.map fun d => V.int (siz d : Int)) ++ [.int (siz d : Int)])) s1)
  have oth : ∀ a o, a ≠ dl → a ≠ kl → a ≠ ml → a ≠ sl → H a = some o → upd (upd (upd (upd H dl (.lst (dvs ++ [v]))) kl (.lst (kas.map V.ref ++ [.ref bl]))) ml (.lst (fs.map V.str ++ [.str f]))) sl (.lst ((ds.map fun d => V.int (siz d : Int)) ++ [.int (siz d : Int)])) a = some o := fun a o q1 q2 q3 q4 e => by rw [upd_ne q4, upd_ne q3, upd_ne q2, upd_ne q1]; exact e
  refine ⟨by rw [upd_ne n3, upd_ne n2, upd_ne n1, upd_same], ?_, by rw [upd_ne n5, upd_ne n4, upd_same, List.map_append]; rfl, by rw [List.length_append, List.length_append, h.kln]; rfl, fun i a js' e1 e2 => ?_, by rw [upd_ne n6, upd_same, List.map_append]; rfl, by rw [upd_same, List.map_append]; rfl⟩
  · have old := DAts.fz z4 h.dd
    have new := hd.fz z4
    have hl := dats_len h.dd
    refine dats_of (by rw [docDs_map, List.length_map, List.length_append, List.length_append, hl, docDs_map, List.length_map]; rfl) fun i x y e1 e2 => ?_
    rw [docDs_map, List.length_map] at hl
    rw [docDs_map, List.map_append] at e1
    by_cases hi : i < ds.length
    · rw [List.getElem?_append_left (by rw [List.length_map]; exact hi)] at e1
      rw [List.getElem?_append_left (by omega)] at e2
      obtain ⟨y', w1, w2⟩ := dats_get old (i := i) (d := x) (by rw [docDs_map]; exact e1)
      rw [w1] at e2
      cases e2
      exact w2
    · rw [List.getElem?_append_right (by rw [List.length_map]; omega), List.length_map] at e1
      rw [List.getElem?_append_right (by omega), hl] at e2
      have hi0 : i - ds.length = 0 := by
        have := (List.getElem?_eq_some_iff.mp e2).1
        simp at this
        omega
      rw [hi0] at e1 e2
      have e1 : docD d = x := Option.some.inj e1
      have e2 : v = y := Option.some.inj e2
      subst e1 e2
      exact new
  · have hkl := h.kln
    by_cases hi : i < kas.length
    · rw [List.getElem?_append_left hi] at e1
      rw [List.getElem?_append_left (by omega)] at e2
      obtain ⟨a1, a2, a3, a4, a5⟩ := h.kk i a js' e1 e2
      exact ⟨oth a _ a2 a3 a4 a5 a1, a2, a3, a4, a5⟩
    · have : i = kas.length := by
        have := (List.getElem?_eq_some_iff.mp e1).1
        rw [List.length_append] at this
        simp at this
        omega
      subst this
      rw [List.getElem?_append_right (Nat.le_refl _), Nat.sub_self] at e1
      rw [List.getElem?_append_right (by omega), hkl, Nat.sub_self] at e2
      have e1 : bl = a := Option.some.inj e1
      have e2 : js = js' := Option.some.inj e2
      subst e1 e2
      exact ⟨oth bl _ b1 b2 b3 b4 hb, b1, b2, b3, b4⟩
/-- documents and the numbers of their children -/
def DocsAt (H : Hp) (l : Addr) (ds : List Doc) : Prop := ∃ vs, H l = some (.lst vs) ∧ DAts H (docDs ds) vs
def KidsAt (H : Hp) (l : Addr) (kss : List (List Nat)) : Prop := ∃ as : List Addr, H l = some (.lst (as.map V.ref)) ∧ as.length = kss.length ∧ ∀ (i : Nat) (a : Addr) (js : List Nat), as[i]? = some a → kss[i]? = some js → H a = some (.lst (intsV js))
theorem DocsAt.same {H H' : Hp} {l : Addr} {ds : List Doc} (h : DocsAt H l ds) (s : Same H H') : DocsAt H' l ds := by
  obtain ⟨vs, e, d⟩ := h
  exact ⟨vs, s _ _ e, DAts.fz (fz_same s) d⟩
theorem KidsAt.same {H H' : Hp} {l : Addr} {kss : List (List Nat)} (h : KidsAt H l kss) (s : Same H H') : KidsAt H' l kss := by
  obtain ⟨as, e, hl, k⟩ := h
  exact ⟨as, s _ _ e, hl, fun i a js e1 e2 => s _ _ (k i a js e1 e2)⟩
end KG
end
section
set_option Elab.async false
set_option linter.all false
set_option autoImplicit false
set_option maxRecDepth 100000
set_option maxHeartbeats 4000000
/-! ## _law_near: the walk -/
namespace KG
open PySem PySem.Spec PyProof.Rows L2 KM
open C8 (Cal Met Mak pe_c pe_mk pe_mt pe_mt0)
section
variable {P : Program} {w : World} {K : PySem.W.Frag} {mg : Str → Option Value} {base : Heap} {N : Nm}
def spNear : Sp := sp3 fun v u z H Q => ∃ (rl cl tl : Addr) (R : List Rl) (cs : List Int) (ts : List Str), v = .ref rl ∧ u = .ref cl ∧ z = .ref tl ∧ RsAt H rl R ∧ RuleSet R ∧ H cl = some (.lst (cs.map V.int)) ∧ cs.length ≤ 14 ∧ H tl = some (.lst (ts.map V.str)) ∧ ts.length = 4 ∧
  ∀ r H' dl kl ds kss, Same H H' → H' r = some (.tup [.ref dl, .ref kl]) → DocsAt H' dl ds → KidsAt H' kl kss → NearP ds kss → ds.length = cs.length → Q (.ref r) H'
abbrev nNear : List Str := ["_law_rules_here", "_law_cells", "_law_tags_here", "_law_docs", "_law_kids", "_law_meant", "_law_sizes_due", "_law_k", "_law_tape_here", "_law_rule", "_law_name", "_law_below", "_law_size", "_law_form", "_law_some", "_law_j"]
theorem scNear : FnScope nNear ["_law_rules_here", "_law_cells", "_law_tags_here"] (defScope sLawNear) := ⟨rfl, rfl, rfl, by decide +kernel, rfl, by decide +kernel, by decide +kernel⟩
theorem rs_same {H H' : Hp} {l : Addr} {R : List Rl} (h : RsAt H l R) (s : Same H H') : RsAt H' l R := by
  obtain ⟨vs, e, d⟩ := h
  exact ⟨vs, s _ _ e, DAts.fz (fz_same s) d⟩
theorem intsV_at {ns : List Nat} {j : Nat} (h : j < ns.length) : (intsV ns)[j]? = some (.int (ns[j] : Int)) := by
  unfold intsV
  rw [List.getElem?_map, List.getElem?_eq_getElem h]; rfl
theorem ok_near (T : Tx K mg N) : Cal P w K mg base 10 "_law_near" spNear [] := by
  refine T.d_law_near.cal scNear (fun _ _ _ _ _ _ us hl => match us, hl with | [_, _, _], _ => rfl) len3 (fun f cdv A outer s H vs Q E hr h => ?_)
  obtain ⟨_, _, _, rfl, rl, cl, tl, R, cs, ts, rfl, rfl, rfl, hR, rs, hcl, hcs, htl, hts, q⟩ := h
  refine ⟨_, (pss_cons (ps_set (i := 3) scNear.nd rfl (Or.inr rfl) (pe_lst pa_nil))
(pss_cons (ps_set (i := 4) scNear.nd rfl (Or.inl rfl) (pe_lst pa_nil))
(pss_cons (ps_set (i := 5) scNear.nd rfl (Or.inr rfl) (pe_lst pa_nil))
(pss_cons (ps_set (i := 6) scNear.nd rfl (Or.inr rfl) (pe_lst pa_nil))
(pss_cons (ps_for PassesOwn.never rfl (pi_range1 (by rfl) T.z_range (pa_cons (pe_callB call_len_seq (by rfl) T.z_len PySem.boot_len (pa_cons (pv 1) pa_nil)) pa_nil)) (pg_name (i := 7) scNear.nd rfl (Or.inl rfl))
(pss_cons (ps_set (i := 8) scNear.nd rfl (Or.inl rfl) (pe_c (ok_tape T) hr (by decide) rfl (pa_cons (pe_ix ix_list (pv 1) (pv 7) (fun _ _ => rfl)) (pa_cons pe_int pa_nil))))
(pss_cons (ps_set (i := 9) scNear.nd rfl (Or.inl rfl) (pe_ix ix_list (pv 0) (pe_c (ok_next T) hr (by decide) rfl (pa_cons (pv 8) (pa_cons (pe_callB call_len_seq (by rfl) T.z_len PySem.boot_len (pa_cons (pv 0) pa_nil)) pa_nil))) (fun _ _ => rfl)))
(pss_cons (ps_set (i := 10) scNear.nd rfl (Or.inl rfl) (pe_ix ix_tup (pv 9) pe_int (fun _ _ => rfl)))
(pss_cut (ps_if (pt_cmpR op_eq (pe_c (ok_next T) hr (by decide) rfl (pa_cons (pv 8) (pa_cons pe_int pa_nil))) pe_int (nomark _)) (pss_one (ps_set (i := 10) scNear.nd rfl (Or.inl rfl) (pe_ix ix_list (pv 2) (pe_c (ok_next T) hr (by decide) rfl (pa_cons (pv 8) (pa_cons pe_int pa_nil))) (fun _ _ => rfl)))) pss_nil)
(pss_cons (ps_set (i := 11) scNear.nd rfl (Or.inl rfl) (pe_lst pa_nil))
(pss_cons (ps_set (i := 12) scNear.nd rfl (Or.inr rfl) pe_int)
(pss_cons (ps_for PassesOwn.never rfl (pi_list (pe_slice sl_list (pe_c (ok_changed T) hr (by decide) rfl (pa_cons (pe_c (ok_made_row T 6) hr (by decide) rfl (pa_cons (pe_ix ix_tup (pv 9) pe_int (fun _ _ => rfl)) (pa_cons (pv 8) pa_nil))) (pa_cons (pv 8) (pa_cons (pv 0) pa_nil)))) po_none (po_some pe_int))) (pg_name (i := 13) scNear.nd rfl (Or.inr rfl))
(pss_cons (ps_setLc (i := 14) (own := [("_law_j", 15)]) (g := gName 15) (tt := tAnd (tTest (tOp rEq (tOp (rIxL K) (tVar 5) (tVar 15)) (tVar 13))) (tTest (tOp (rI0 fun i j => .bl (decide (i ≤ j))) (tOp (rI0 fun i j => .int (i + j)) (tVar 12) (tOp (rIxL K) (tVar 6) (tVar 15))) (tC (.int 40))))) (te := tVar 15) rfl scNear.nd rfl rfl (sw_true rfl rfl rfl (by decide +kernel)) (pi_range1 (by rfl) T.z_range (pa_cons (pv 7) pa_nil)) (blkOk_by (N := nNear) (sc := defScope sLawNear) (by decide +kernel)) (fun _ _ _ _ _ => pg_name (i := 15) scNear.nd rfl (Or.inl rfl)) (fun _ _ _ _ _ => pts_one (PW.pt (pw_and (pt_cmpR op_eq (pe_ix ix_list (pv 5) (pv 15) (fun _ _ => rfl)) (pv 13) (nomark _)) (pw_and1 (pt_cmpR op_le (pe_op op_add (pv 12) (pe_ix ix_list (pv 6) (pv 15) (fun _ _ => rfl))) pe_int (nomark _)))))) (fun _ _ _ _ _ => (pv 15)))
(pss_cut (ps_if (pt_cmpR op_eq (pe_callB call_len_seq (by rfl) T.z_len PySem.boot_len (pa_cons (pv 14) pa_nil)) pe_int (nomark _)) (pss_one (ps_setLc (i := 14) (own := [("_law_j", 15)]) (g := gName 15) (tt := tTest (tOp (rI0 fun i j => .bl (decide (i ≤ j))) (tOp (rI0 fun i j => .int (i + j)) (tVar 12) (tOp (rIxL K) (tVar 6) (tVar 15))) (tC (.int 40)))) (te := tVar 15) rfl scNear.nd rfl rfl (sw_true rfl rfl rfl (by decide +kernel)) (pi_range1 (by rfl) T.z_range (pa_cons (pv 7) pa_nil)) (blkOk_by (N := nNear) (sc := defScope sLawNear) (by decide +kernel)) (fun _ _ _ _ _ => pg_name (i := 15) scNear.nd rfl (Or.inl rfl)) (fun _ _ _ _ _ => pts_one (pt_cmpR op_le (pe_op op_add (pv 12) (pe_ix ix_list (pv 6) (pv 15) (fun _ _ => rfl))) pe_int (nomark _))) (fun _ _ _ _ _ => (pv 15)))) pss_nil)
(pss_one (ps_if (pt_cmpR op_gt (pe_callB call_len_seq (by rfl) T.z_len PySem.boot_len (pa_cons (pv 14) pa_nil)) pe_int (nomark _)) (pss_cons (ps_expr (pe_bm PySem.F.plainAttrs_list PySem.F.slot_list_append PySem.F.type_list_append mt_append (pv 11) (pa_cons (pe_ix ix_list (pv 14) (pe_c (ok_next T) hr (by decide) rfl (pa_cons (pv 8) (pa_cons (pe_callB call_len_seq (by rfl) T.z_len PySem.boot_len (pa_cons (pv 14) pa_nil)) pa_nil))) (fun _ _ => rfl)) pa_nil)))
(pss_one (ps_set (i := 12) scNear.nd rfl (Or.inr rfl) (pe_op op_add (pv 12) (pe_ix ix_list (pv 6) (pe_ix ix_list (pv 11) (pe_un un_neg pe_int) (fun _ _ => rfl)) (fun _ _ => rfl)))))) pss_nil)))))
(pss_cons (ps_expr (pe_bm PySem.F.plainAttrs_list PySem.F.slot_list_append PySem.F.type_list_append mt_append (pv 3) (pa_cons (pe_tup (pa_cons (pv 10) (pa_cons (pe_callTy call_tuple_of rfl T.z_tuple boot_tuple (pa_cons (pe_lc (own := [("_law_j", 15)]) (g := gName 15) (tt := tYes) (te := tOp (rIxL K) (tVar 3) (tVar 15)) rfl scNear.nd  (pi_list (pv 11)) (blkOk_by (N := nNear) (sc := defScope sLawNear) (by decide +kernel)) (fun _ _ _ _ _ => pg_name (i := 15) scNear.nd rfl (Or.inl rfl)) (fun _ _ _ _ _ => pts_nil) (fun _ _ _ _ _ => (pe_ix ix_list (pv 3) (pv 15) (fun _ _ => rfl)))) pa_nil)) pa_nil))) pa_nil)))
(pss_cons (ps_expr (pe_bm PySem.F.plainAttrs_list PySem.F.slot_list_append PySem.F.type_list_append mt_append (pv 4) (pa_cons (pv 11) pa_nil)))
(pss_cons (ps_expr (pe_bm PySem.F.plainAttrs_list PySem.F.slot_list_append PySem.F.type_list_append mt_append (pv 5) (pa_cons (pe_ix ix_tup (pv 9) pe_int (fun _ _ => rfl)) pa_nil)))
(pss_one (ps_expr (pe_bm PySem.F.plainAttrs_list PySem.F.slot_list_append PySem.F.type_list_append mt_append (pv 6) (pa_cons (pv 12) pa_nil)))))))))))))))
(pss_one (ps_ret (pe_tup (pa_cons (pv 3) (pa_cons (pv 4) pa_nil)))))))))), ?_⟩
  obtain ⟨rvs, er, erl, erg⟩ := rs_get hR
  have hR0 := rs.pos
  have hR8 := rs.few
  refine ⟨(by show 0 ≤ sizeLine; decide), fun dl hdl => ⟨(by show 0 ≤ sizeLine; decide), fun kl hkl => ⟨(by show 0 ≤ sizeLine; decide), fun ml hml => ⟨(by show 0 ≤ sizeLine; decide), fun sl hsl => ?_⟩⟩⟩⟩
  have s1 : Same H (upd H dl (.lst [])) := same_new hdl _
  have s2 := same_new hkl (.lst [])
  have s3 := same_new hml (.lst [])
  have s4 := same_new hsl (.lst [])
  have n1 : dl ≠ kl := ne_of_none upd_same hkl
  have n2 : dl ≠ ml := ne_of_none (s2 _ _ upd_same) hml
  have n3 : dl ≠ sl := ne_of_none (s3 _ _ (s2 _ _ upd_same)) hsl
  have n4 : kl ≠ ml := ne_of_none upd_same hml
  have n5 : kl ≠ sl := ne_of_none (s3 _ _ upd_same) hsl
  have n6 : ml ≠ sl := ne_of_none upd_same hsl
  have fk : H kl = none := none_same s1 hkl
  have fm : H ml = none := none_same (s1.trans s2) hml
  have fsl : H sl = none := none_same (s1.trans (s2.trans s3)) hsl
  have i0 : NearH (upd (upd (upd (upd H dl (.lst [])) kl (.lst [])) ml (.lst [])) sl (.lst [])) dl kl ml sl [] [] [] [] [] :=
    ⟨s4 _ _ (s3 _ _ (s2 _ _ upd_same)), by simp [docDs, DAts], s4 _ _ (s3 _ _ upd_same), rfl, fun i a js e _ => by simp at e, s4 _ _ upd_same, upd_same⟩
  have s04 := s1.trans (s2.trans (s3.trans s4))
  generalize upd (upd (upd (upd H dl (.lst [])) kl (.lst [])) ml (.lst [])) sl (.lst []) = H0 at *
  refine ⟨_, rfl, cl, _, rfl, .inl (SqL.of (s04 _ _ hcl)), (cs.length : Int), by rw [List.length_map], by omega, by omega, for_range (n := (cs.length : Int).toNat) (fun i σ H' => ∃ (u7 u8 u9 u10 u11 u12 u13 u14 : Option V) (dvs : List V) (kas : List Addr) (ds : List Doc) (kss : List (List Nat)) (fs : List Str), σ = [some (.ref rl), some (.ref cl), some (.ref tl), some (.ref dl), some (.ref kl), some (.ref ml), some (.ref sl), u7, u8, u9, u10, u11, u12, u13, u14, none] ∧ Same H H' ∧ NearH H' dl kl ml sl dvs kas ds kss fs ∧ NearP ds kss ∧ ds.length = i ∧ fs.length = i) ?_ ?_ ?_⟩
  · exact ⟨none, none, none, none, none, none, none, none, [], [], [], [], [], rfl, s04, i0, NearP.nil, rfl, rfl⟩
  · rintro i σ H5 hi ⟨u7, u8, u9, u10, u11, u12, u13, u14, dvs, kas, ds, kss, fs, rfl, s5, nh, np, hds, hfs⟩
    rw [Int.toNat_natCast] at hi
    rw [Int.zero_add]
    -- tape, rule, name
    refine ⟨_, rfl, _, rfl, cl, _, _, _, rfl, rfl, SqL.of (s5 _ _ hcl), atI_nat (j := i) (v := .int cs[i]) (by rw [List.getElem?_map, List.getElem?_eq_getElem hi]; rfl), _, _, rfl, cs[i], rfl, rfl, fun t H6 s6 ht0 tt => ?_⟩
    refine ⟨_, rfl, _, rfl, _, rfl, rl, _, rfl, .inl (SqL.of (s6 _ _ (s5 _ _ er))), _, _, rfl, t, _, rfl, rfl, tt, by omega, fun z7 H7 hz7 b7 t7 => ?_⟩
    have s57 := same_but s6 ht0 b7
    have hz7' : z7 < R.length := by omega
    obtain ⟨ra, rd, r1, r2, r3⟩ := erg z7 hz7'
    refine ⟨rl, _, _, _, rfl, rfl, SqL.of (s57 _ _ (s5 _ _ er)), atI_nat r1, ?_⟩
    refine ⟨_, rfl, ra, _, _, _, rfl, rfl, SqT.of (s57 _ _ (s5 _ _ r2)), at1, ?_⟩
    refine ⟨fun σ H8 => ∃ nm : Str, σ = [some (.ref rl), some (.ref cl), some (.ref tl), some (.ref dl), some (.ref kl), some (.ref ml), some (.ref sl), some (.int (i : Nat)), some (.ref t), some (.ref ra), some (.str nm), u11, u12, u13, u14, none] ∧ Same H5 H8 ∧ TapeAt H8 t, ?_, ?_⟩
    · refine ⟨_, rfl, _, _, rfl, t, 9, rfl, rfl, t7, by decide, fun z8 H8 hz8 b8 t8 => ⟨rfl, _, rfl, ?_⟩⟩
      have s58 := same_but s57 ht0 b8
      refine ite2 (fun _ => ?_) (fun _ => ?_)
      · refine ⟨_, rfl, _, rfl, _, _, rfl, t, 4, rfl, rfl, t8, by decide, fun z9 H9 hz9 b9 t9 => ?_⟩
        have hz9' : z9 < ts.length := by omega
        have s59 := same_but s58 ht0 b9
        refine ⟨tl, _, _, _, rfl, rfl, SqL.of (s59 _ _ (s5 _ _ htl)), atI_nat (j := z9) (v := .str ts[z9]) (by rw [List.getElem?_map, List.getElem?_eq_getElem hz9']; rfl), ?_⟩
        exact ⟨ts[z9], rfl, s59, t9⟩
      · exact ⟨_, rfl, s58, t8⟩
    rintro σ H8 ⟨nm, rfl, s58, t8⟩
    refine ⟨(by show 0 ≤ sizeLine; decide), fun bl hbl => ?_⟩
    have s9 := same_new hbl (.lst [])
    have s59 := s58.trans s9
    have nbt : bl ≠ t := fun z => by obtain ⟨ns, e⟩ := t8; rw [z, e] at hbl; cases hbl
    have hbl5 : H5 bl = none := none_same s58 hbl
    have ebl : upd H8 bl (.lst []) bl = some (.lst []) := upd_same
    have t9 := t8.same s9
    generalize upd H8 bl (.lst []) = H9 at *
    have pb := (rs.ok R[z7] (List.getElem_mem hz7')).2.2
    have pz : sz R[z7].2.2 ≤ 103 := pb.z
    have pr := rl_few pb
    refine ⟨_, rfl, ra, _, _, _, rfl, rfl, SqT.of (s59 _ _ (s5 _ _ r2)), at2, _, rfl, _, _, rfl, R[z7].2.2, t, rfl, r3.fz (fz_same (s5.trans s59)), pb.cn, by have := pb.d; omega, pr, by omega, t9, fun l1 H10 b10 t10 hl1 rw10 => ?_⟩
    have s510 := same_but s59 ht0 b10
    have nl1 : l1 ≠ t := fun z => by obtain ⟨ns, e⟩ := t9; rw [z, e] at hl1; cases hl1
    have nrt : rl ≠ t := ne_of_none (s5 _ _ er) ht0
    refine ⟨_, rfl, _, rfl, _, _, _, rfl, l1, t, rl, _, R, rfl, rfl, rfl, rw10, t10, nl1, nrt, rs_same hR (s5.trans s510), hR0, hR8, by omega, fun l2 H11 b11 t11 ⟨gs, el2, hgs⟩ => ?_⟩
    have s511 := same_but s510 ht0 b11
    have ebl11 : H11 bl = some (.lst []) := b11 _ _ nbt (b10 _ _ nbt ebl)
    refine ⟨_, rfl, l2, _, rfl, SqL.of el2, fun fl hfl => ?_⟩
    rw [show cutV (gs.map V.str) none (some 4) = (gs.map V.str).take 4 from cut_to _ 4, ← List.map_take]
    have s12 := same_new hfl (.lst ((gs.take 4).map V.str))
    have nft : fl ≠ t := fun z => by obtain ⟨ns, e⟩ := t11; rw [z, e] at hfl; cases hfl
    have nfb : fl ≠ bl := (ne_of_none ebl11 hfl).symm
    have s512 := s511.trans s12
    have efl : upd H11 fl (.lst ((gs.take 4).map V.str)) fl = some (.lst ((gs.take 4).map V.str)) := upd_same
    have ebl12 := s12 _ _ ebl11
    have t12 := t11.same s12
    have hg4 : (gs.take 4).length ≤ 4 := by rw [List.length_take]; omega
    generalize upd H11 fl (.lst ((gs.take 4).map V.str)) = H12 at *
    refine ⟨fl, rfl, ⟨_, SqL.of efl⟩, for_list (xs := (gs.take 4).map V.str) (fun m σ H' => ∃ (u13 u14 : Option V) (js : List Nat) (cs2 : List Doc), σ = [some (.ref rl), some (.ref cl), some (.ref tl), some (.ref dl), some (.ref kl), some (.ref ml), some (.ref sl), some (.int (i : Nat)), some (.ref t), some (.ref ra), some (.str nm), some (.ref bl), some (.int ((sizs cs2 + 1 : Nat) : Int)), u13, u14, none] ∧ Same H5 H' ∧ TapeAt H' t ∧ H' bl = some (.lst (intsV js)) ∧ H' fl = some (.lst ((gs.take 4).map V.str)) ∧ KRel ds i js cs2 ∧ js.length ≤ m ∧ sizs cs2 + 1 ≤ 40) ?_ ?_ ?_ ?_⟩
    · exact ⟨u13, u14, [], [], rfl, s512, t12, ebl12, efl, KRel.nil, Nat.le_refl _, by rw [sizs]; omega⟩
    · rintro m σ H' hm ⟨_, _, _, _, rfl, _, _, _, e, _⟩
      exact SqL.of e
    · rintro m x σ H13 hx ⟨u13, u14, js, cs2, rfl, s13, t13, eb13, ef13, kr, hjs, h40⟩
      have hm4 : m < 4 := by
        have := (List.getElem?_eq_some_iff.mp hx).1
        rw [List.length_map] at this
        omega
      rw [List.getElem?_map] at hx
      obtain ⟨fo0, _, hx2⟩ := Option.map_eq_some_iff.mp hx
      subst hx2
      have nh13 := nh.same s13
      have nsl5 : sl ≠ bl := ne_of_none nh.s hbl5
      refine ⟨_, rfl, (i : Int), rfl, by omega, by omega, fun D hD => ?_⟩
      refine rd_lcT (n := (i : Int).toNat) walk_range yfn_eq (fun j acc H14 => Same H13 H14 ∧ ∃ ns : List Nat, acc = intsV ns ∧ ∀ x ∈ ns, x < i ∧ ∀ d, ds[x]? = some d → sizs cs2 + 1 + siz d ≤ 40) ⟨same_new hD _, [], rfl, fun x h => by cases h⟩ (fun _ _ _ _ => True.intro) (fun j x H14 acc Ct Cf hj y ⟨s14, ns, ea, hns⟩ hacc hal kt kf => ?_) (fun H14 acc ⟨s14, ns, ea, hns⟩ hacc hal => ?_)
      · rw [Int.toNat_natCast] at hj
        have ey : x = .int (j : Int) := by
          rw [y.2]
          show V.int (0 + (j : Int)) = _
          rw [Int.zero_add]
        subst ey
        have hjd : j < ds.length := by omega
        have hjf : j < fs.length := by omega
        refine ⟨_, rfl, _, rfl, ml, _, _, _, rfl, rfl, SqL.of (s14 _ _ nh13.m), atI_nat (j := j) (v := .str fs[j]) (by rw [List.getElem?_map, List.getElem?_eq_getElem hjf]; rfl), _, rfl, rfl, _, rfl, ?_⟩
        refine ite2 (fun _ => ?_) (fun _ => ?_)
        · refine ⟨_, rfl, _, rfl, _, rfl, sl, _, _, _, rfl, rfl, SqL.of (s14 _ _ nh13.s), atI_nat (j := j) (v := .int (siz ds[j] : Int)) (by rw [List.getElem?_map, List.getElem?_eq_getElem hjd]; rfl), _, _, rfl, rfl, _, _, rfl, rfl, _, rfl, ?_⟩
          refine ite2 (fun hle => ?_) (fun _ => ?_)
          · have hle := of_decide_eq_true hle
            refine ⟨_, rfl, kt _ H14 hacc (by rw [sizeLine_eq]; omega) ⟨fun b o e => by rw [upd_ne (ne_of_none e hD)]; exact s14 _ _ e, ns ++ [j], by rw [ea]; unfold intsV; rw [List.map_append]; rfl, fun x hx => ?_⟩⟩
            rcases List.mem_append.mp hx with hx | hx
            · exact hns x hx
            · rw [List.mem_singleton.mp hx]
              exact ⟨hj, fun d e => by rw [List.getElem?_eq_getElem hjd] at e; cases e; omega⟩
          · exact kf H14 hacc ⟨s14, ns, ea, hns⟩
        · refine iteF ?_
          exact kf H14 hacc ⟨s14, ns, ea, hns⟩
      have nDt : D ≠ t := fun z => by obtain ⟨ns, e⟩ := t13; rw [z, e] at hD; cases hD
      refine ⟨fun σ H15 => ∃ (sD : Addr) (ns : List Nat), σ = [some (.ref rl), some (.ref cl), some (.ref tl), some (.ref dl), some (.ref kl), some (.ref ml), some (.ref sl), some (.int (i : Nat)), some (.ref t), some (.ref ra), some (.str nm), some (.ref bl), some (.int ((sizs cs2 + 1 : Nat) : Int)), some (.str fo0), some (.ref sD), none] ∧ Same H13 H15 ∧ H15 sD = some (.lst (intsV ns)) ∧ sD ≠ t ∧ ∀ x ∈ ns, x < i ∧ ∀ d, ds[x]? = some d → sizs cs2 + 1 + siz d ≤ 40, ?_, ?_⟩
      · refine ⟨_, rfl, D, _, rfl, .inl (SqL.of hacc), rfl, _, rfl, ?_⟩
        refine ite2 (fun _ => ?_) (fun _ => ?_)
        · refine ⟨_, rfl, (i : Int), rfl, by omega, by omega, fun D2 hD2 => ?_⟩
          refine rd_lcT (n := (i : Int).toNat) walk_range yfn_eq (fun j acc H15 => Same H14 H15 ∧ ∃ ns : List Nat, acc = intsV ns ∧ ∀ x ∈ ns, x < i ∧ ∀ d, ds[x]? = some d → sizs cs2 + 1 + siz d ≤ 40) ⟨same_new hD2 _, [], rfl, fun x h => by cases h⟩ (fun _ _ _ _ => True.intro) (fun j x H15 acc2 Ct Cf hj y ⟨s15, ns2, ea2, hns2⟩ hacc2 hal2 kt kf => ?_) (fun H15 acc2 ⟨s15, ns2, ea2, hns2⟩ hacc2 hal2 => ?_)
          · rw [Int.toNat_natCast] at hj
            have ey : x = .int (j : Int) := by
              rw [y.2]
              show V.int (0 + (j : Int)) = _
              rw [Int.zero_add]
            subst ey
            have hjd : j < ds.length := by omega
            refine ⟨_, rfl, _, rfl, _, rfl, sl, _, _, _, rfl, rfl, SqL.of (s15 _ _ (s14 _ _ nh13.s)), atI_nat (j := j) (v := .int (siz ds[j] : Int)) (by rw [List.getElem?_map, List.getElem?_eq_getElem hjd]; rfl), _, _, rfl, rfl, _, _, rfl, rfl, _, rfl, ?_⟩
            refine ite2 (fun hle => ?_) (fun _ => ?_)
            · have hle := of_decide_eq_true hle
              refine ⟨_, rfl, kt _ H15 hacc2 (by rw [sizeLine_eq]; omega) ⟨fun b o e => by rw [upd_ne (ne_of_none e hD2)]; exact s15 _ _ e, ns2 ++ [j], by rw [ea2]; unfold intsV; rw [List.map_append]; rfl, fun x hx => ?_⟩⟩
              rcases List.mem_append.mp hx with hx | hx
              · exact hns2 x hx
              · rw [List.mem_singleton.mp hx]
                exact ⟨hj, fun d e => by rw [List.getElem?_eq_getElem hjd] at e; cases e; omega⟩
            · exact kf H15 hacc2 ⟨s15, ns2, ea2, hns2⟩
          · have nD2 : D2 ≠ t := fun z => by obtain ⟨ns, e⟩ := t13.same s14; rw [z, e] at hD2; cases hD2
            exact ⟨D2, ns2, rfl, s14.trans s15, by rw [hacc2, ea2], nD2, hns2⟩
        · exact ⟨D, ns, rfl, s14, by rw [hacc, ea], nDt, hns⟩
      rintro σ H15 ⟨sD, ns, rfl, s15, eD, nDt, hns⟩
      have eb15 := s15 _ _ eb13
      have t15 := t13.same s15
      refine ⟨_, rfl, sD, _, rfl, .inl (SqL.of eD), _, _, rfl, rfl, _, rfl, ?_⟩
      rw [List.length_map]
      refine ite2 (fun hgt => ?_) (fun _ => ?_)
      · have hgt := of_decide_eq_true hgt
        have hjs16 : js.length < 16 := by omega
        refine ⟨_, rfl, .inl ⟨rfl, _, SqL.of eb15⟩, _, rfl, _, rfl, _, rfl, sD, _, rfl, .inl (SqL.of eD), _, _, rfl, t, _, rfl, rfl, t15, by rw [List.length_map]; exact hgt, fun z H16 hz b16 t16 => ?_⟩
        rw [List.length_map] at hz
        have hzn : z < ns.length := by omega
        obtain ⟨c1, c2⟩ := hns ns[z] (List.getElem_mem hzn)
        have hxd : ns[z] < ds.length := by omega
        have c3 := c2 ds[ns[z]] (List.getElem?_eq_getElem hxd)
        refine ⟨sD, _, _, _, rfl, rfl, SqL.of (b16 _ _ nDt eD), atI_nat (intsV_at hzn), bl, _, _, rfl, rfl, b16 _ _ nbt eb15, by rw [List.length_map, sizeLine_eq]; omega, ?_⟩
        have s516 : Same H5 H16 := same_but (s13.trans s15) ht0 b16
        have s517 : Same H5 (upd H16 bl (.lst (intsV js ++ [.int (ns[z] : Int)]))) := fun b o e => by rw [upd_ne (ne_of_none e hbl5)]; exact s516 _ _ e
        have esum : ((sizs cs2 + 1 : Nat) : Int) + ((siz ds[ns[z]] : Nat) : Int) = ((sizs (cs2 ++ [ds[ns[z]]]) + 1 : Nat) : Int) := by rw [sizs_append, sizs, sizs]; omega
        refine ⟨_, rfl, _, rfl, _, rfl, _, rfl, bl, _, _, _, rfl, rfl, SqL.of upd_same, atI_last _ _, sl, _, _, _, rfl, rfl, SqL.of (s517 _ _ nh.s), atI_nat (j := ns[z]) (v := .int (siz ds[ns[z]] : Int)) (by rw [List.getElem?_map, List.getElem?_eq_getElem hxd]; rfl), _, _, rfl, rfl, ?_⟩
        refine ⟨_, _, js ++ [ns[z]], cs2 ++ [ds[ns[z]]], by rw [← esum]; rfl, s517, ?_, by rw [upd_same]; unfold intsV; rw [List.map_append]; rfl, by rw [upd_ne nfb]; exact b16 _ _ nft (s15 _ _ ef13), kr.snoc c1 (List.getElem?_eq_getElem hxd), by rw [List.length_append]; exact Nat.succ_le_succ hjs, by rw [sizs_append, sizs, sizs]; omega⟩
        obtain ⟨tns, et⟩ := t16
        exact ⟨tns, by rw [upd_ne nbt.symm]; exact et⟩
      · exact ⟨_, _, js, cs2, rfl, s13.trans s15, t15, eb15, s15 _ _ ef13, kr, by omega, h40⟩
    · rintro σ H13 ⟨u13, u14, js, cs2, rfl, s13, t13, eb13, ef13, kr, hjs, h40⟩
      rw [List.length_map] at hjs
      have nh13 := nh.same s13
      have hjs4 : js.length ≤ 4 := by omega
      have hrd : H13 ra = some (.tup [.str R[z7].1, .str R[z7].2.1, rd]) := s13 _ _ (s5 _ _ r2)
      refine ⟨_, rfl, .inl ⟨rfl, _, SqL.of nh13.d⟩, _, rfl, _, rfl, bl, rfl, ⟨_, SqL.of eb13⟩, fun D hD => ?_⟩
      refine rd_lc walk_list yat_eq hD (by rw [List.length_map]; omega) (fun j y H' => ∃ d, cs2[j]? = some d ∧ DAt H' (docD d) y) (fun j y H1 H2 z ⟨d, e, k⟩ => ⟨d, e, k.fz z⟩) (fun H' s' => SqL.of (s' _ _ eb13)) (fun j x H' C hj y s' k' => ?_) (fun H14 acc s14 hacc hl14 hf => ?_)
      · rw [List.length_map] at hj
        have hy := y.2
        rw [intsV_at hj] at hy
        have hy := Option.some.inj hy
        subst hy
        obtain ⟨c, c1, c2⟩ := kr.get (List.getElem?_eq_getElem hj)
        obtain ⟨v, v1, v2⟩ := (docDs_get nh13.dd).2 _ _ c2
        exact ⟨_, rfl, _, rfl, dl, _, _, _, rfl, rfl, SqL.of (s' _ _ nh13.d), atI_nat v1, k' _ H' (Same.refl _) ⟨c, c1, v2.fz (fz_same s')⟩⟩
      rw [List.length_map] at hl14 hf
      refine ⟨D, acc, rfl, .inl ⟨SqL.of hacc, fun ta hta => ⟨(by show 2 ≤ sizeLine; decide), fun pa hpa => ?_⟩⟩⟩
      have s15 : Same H14 (upd (upd H14 ta (.tup acc)) pa (.tup [.str nm, .ref ta])) := (same_new hta _).trans (same_new hpa _)
      have epa : upd (upd H14 ta (.tup acc)) pa (.tup [.str nm, .ref ta]) pa = some (.tup [.str nm, .ref ta]) := upd_same
      have eta : upd (upd H14 ta (.tup acc)) pa (.tup [.str nm, .ref ta]) ta = some (.tup acc) := (same_new hpa _) _ _ upd_same
      generalize upd (upd H14 ta (.tup acc)) pa (.tup [.str nm, .ref ta]) = H15 at *
      have ddoc : DAt H15 (docD (.mk nm cs2)) (.ref pa) := by
        rw [docD, DAt]
        refine ⟨pa, _, rfl, epa, ?_⟩
        rw [DAts, DAts, DAts, DAt, DAt]
        refine ⟨rfl, ⟨ta, acc, rfl, eta, ?_⟩, trivial⟩
        refine dats_of (by rw [hl14, docDs_map, List.length_map, kr.len]) fun m x y e1 e2 => ?_
        rw [docDs_map, List.getElem?_map] at e1
        obtain ⟨c, c1, c2⟩ := Option.map_eq_some_iff.mp e1
        subst c2
        have hm := (List.getElem?_eq_some_iff.mp e2).1
        obtain ⟨y', f1, d, f2, f3⟩ := hf m (by omega)
        rw [f1] at e2
        rw [c1] at f2
        cases e2
        cases f2
        exact f3.fz (fz_same s15)
      have s1315 := s14.trans s15
      have nh15 := nh13.same s1315
      have eb15 := s1315 _ _ eb13
      have hk1 : ∀ o, upd H15 dl o kl = some (.lst (kas.map V.ref)) := fun o => by rw [upd_ne n1.symm]; exact nh15.k
      have hm1 : ∀ o1 o2, upd (upd H15 dl o1) kl o2 ml = some (.lst (fs.map V.str)) := fun o1 o2 => by rw [upd_ne n4.symm, upd_ne n2.symm]; exact nh15.m
      have hs1 : ∀ o1 o2 o3, upd (upd (upd H15 dl o1) kl o2) ml o3 sl = some (.lst (ds.map fun d => V.int (siz d : Int))) := fun o1 o2 o3 => by rw [upd_ne n6.symm, upd_ne n5.symm, upd_ne n3.symm]; exact nh15.s
      have hra1 : ∀ o1 o2, upd (upd H15 dl o1) kl o2 ra = some (.tup [.str R[z7].1, .str R[z7].2.1, rd]) := fun o1 o2 => by rw [upd_ne (ne_of_none r2 fk), upd_ne (ne_of_none r2 hdl)]; exact s1315 _ _ hrd
      have hdvl : dvs.length ≤ 14 := by rw [dats_len nh15.dd, docDs_map, List.length_map]; omega
      have hkl2 : kas.length ≤ 14 := by rw [nh15.kln, np.len]; omega
      have esz : siz (.mk nm cs2) = sizs cs2 + 1 := by rw [siz]
      refine ⟨dl, _, _, rfl, rfl, nh15.d, by rw [sizeLine_eq]; omega, ?_⟩
      refine ⟨_, rfl, .inl ⟨rfl, _, SqL.of (hk1 _)⟩, _, rfl, kl, _, _, rfl, rfl, hk1 _, by rw [List.length_map, sizeLine_eq]; omega, ?_⟩
      refine ⟨_, rfl, .inl ⟨rfl, _, SqL.of (hm1 _ _)⟩, _, rfl, ra, _, _, _, rfl, rfl, SqT.of (hra1 _ _), at0, ml, _, _, rfl, rfl, hm1 _ _, by rw [List.length_map, sizeLine_eq]; omega, ?_⟩
      refine ⟨_, rfl, .inl ⟨rfl, _, SqL.of (hs1 _ _ _)⟩, _, rfl, sl, _, _, rfl, rfl, hs1 _ _ _, by rw [List.length_map, sizeLine_eq]; omega, ?_⟩
      have fin := nh15.snoc n1 n2 n3 n4 n5 n6 ddoc eb15 (ne_of_none nh.d hbl5).symm (ne_of_none nh.k hbl5).symm (ne_of_none nh.m hbl5).symm (ne_of_none nh.s hbl5).symm (f := R[z7].1)
      rw [esz] at fin
      refine ⟨_, _, _, _, _, _, _, _, dvs ++ [.ref pa], kas ++ [bl], ds ++ [.mk nm cs2], kss ++ [js], fs ++ [R[z7].1], rfl, fun b o e => ?_, fin, np.snoc (by rw [hds]; exact kr) hjs4 h40 nm, by rw [List.length_append, hds]; rfl, by rw [List.length_append, hfs]; rfl⟩
      rw [upd_ne (ne_of_none e fsl), upd_ne (ne_of_none e fm), upd_ne (ne_of_none e fk), upd_ne (ne_of_none e hdl)]
      exact s1315 _ _ (s13 _ _ (s5 _ _ e))
  · rintro σ H' ⟨u7, u8, u9, u10, u11, u12, u13, u14, dvs, kas, ds, kss, fs, rfl, s5, nh, np, hds, hfs⟩
    rw [Int.toNat_natCast] at hds
    refine ⟨_, rfl, _, rfl, (by show 2 ≤ sizeLine; decide), fun r hr0 => ?_⟩
    have s6 := same_new hr0 (.tup [.ref dl, .ref kl])
    have nh' := nh.same s6
    exact q r _ dl kl ds kss (s5.trans s6) upd_same ⟨_, nh'.d, nh'.dd⟩ ⟨_, nh'.k, nh'.kln, fun i a js e f => (nh'.kk i a js e f).1⟩ np hds
end
end KG
end
section
set_option Elab.async false
set_option linter.all false
set_option autoImplicit false
set_option maxRecDepth 100000
set_option maxHeartbeats 4000000
/-! ## _law_sets -/
namespace KG
open PySem PySem.Spec PyProof.Rows L2 KM
open C8 (Cal Met Mak pe_c pe_mk pe_mt pe_mt0)
open Classical
/-- the forms meant of each document -/
def SetsAt (H : Hp) (l : Addr) (R : List Rl) (ds : List Doc) : Prop := ∃ as : List Addr, H l = some (.lst (as.map V.ref)) ∧ as.length = ds.length ∧ ∀ (i : Nat) (a : Addr) (d : Doc), as[i]? = some a → ds[i]? = some d → H a = some (.lst ((fo R d).map V.str))
theorem SetsAt.same {H H' : Hp} {l : Addr} {R : List Rl} {ds : List Doc} (h : SetsAt H l R ds) (s : Same H H') : SetsAt H' l R ds := by
  obtain ⟨as, e, hl, k⟩ := h
  exact ⟨as, s _ _ e, hl, fun i a d e1 e2 => s _ _ (k i a d e1 e2)⟩
theorem foR_take {R : List Rl} {nm : Str} {row : KM.Row} {j : Nat} {r : Rl} (h : R[j]? = some r) : foR (R.take (j + 1)) nm row = foR (R.take j) nm row ++ (if r.2.1 = nm ∧ L r.2.2 row then [r.1] else []) := by
  unfold foR
  rw [take_snoc h, List.filter_append, List.map_append]
  congr 1
  by_cases hc : r.2.1 = nm ∧ L r.2.2 row
  · rw [if_pos hc, List.filter_cons_of_pos (by exact decide_eq_true hc)]
    rfl
  · rw [if_neg hc, List.filter_cons_of_neg (by rw [decide_eq_false hc]; decide)]
    rfl
theorem foR_len {R : List Rl} {nm : Str} {row : KM.Row} : (foR R nm row).length ≤ R.length := by
  unfold foR
  rw [List.length_map]
  exact List.length_filter_le _ _
section
variable {P : Program} {w : World} {K : PySem.W.Frag} {mg : Str → Option Value} {base : Heap} {N : Nm}
def spSets : Sp := sp3 fun v u z H Q => ∃ (rl dl kl : Addr) (R : List Rl) (ds : List Doc) (kss : List (List Nat)), v = .ref rl ∧ u = .ref dl ∧ z = .ref kl ∧ RsAt H rl R ∧ RuleSet R ∧ DocsAt H dl ds ∧ KidsAt H kl kss ∧ NearP ds kss ∧ ds.length ≤ 14 ∧
  ∀ l H', Same H H' → SetsAt H' l R ds → Q (.ref l) H'
abbrev nSets : List Str := ["_law_rules_here", "_law_docs", "_law_kids", "_law_sets_here", "_law_k", "_law_row", "_law_j", "_law_rule"]
theorem scSets : FnScope nSets ["_law_rules_here", "_law_docs", "_law_kids"] (defScope sLawSets) := ⟨rfl, rfl, rfl, by decide +kernel, rfl, by decide +kernel, by decide +kernel⟩
theorem ok_sets (T : Tx K mg N) : Cal P w K mg base 105 "_law_sets" spSets [] := by
  refine T.d_law_sets.cal scSets (fun _ _ _ _ _ _ us hl => match us, hl with | [_, _, _], _ => rfl) len3 (fun f cdv A outer s H vs Q E hr h => ?_)
  obtain ⟨_, _, _, rfl, rl, dl, kl, R, ds, kss, rfl, rfl, rfl, hR, rs, ⟨dvs, edl, hdv⟩, ⟨kas, ekl, hkal, hkas⟩, np, hds, q⟩ := h
  refine ⟨_, (pss_cons (ps_set (i := 3) scSets.nd rfl (Or.inr rfl) (pe_lst pa_nil))
(pss_cons (ps_for PassesOwn.never rfl (pi_range1 (by rfl) T.z_range (pa_cons (pe_callB call_len_seq (by rfl) T.z_len PySem.boot_len (pa_cons (pv 1) pa_nil)) pa_nil)) (pg_name (i := 4) scSets.nd rfl (Or.inr rfl))
(pss_cons (ps_set (i := 5) scSets.nd rfl (Or.inr rfl) (pe_lc (own := [("_law_j", 6)]) (g := gName 6) (tt := tYes) (te := tOp (rIxL K) (tVar 3) (tVar 6)) rfl scSets.nd  (pi_list (pe_ix ix_list (pv 2) (pv 4) (fun _ _ => rfl))) (blkOk_by (N := nSets) (sc := defScope sLawSets) (by decide +kernel)) (fun _ _ _ _ _ => pg_name (i := 6) scSets.nd rfl (Or.inl rfl)) (fun _ _ _ _ _ => pts_nil) (fun _ _ _ _ _ => (pe_ix ix_list (pv 3) (pv 6) (fun _ _ => rfl)))))
(pss_one (ps_expr (pe_bm PySem.F.plainAttrs_list PySem.F.slot_list_append PySem.F.type_list_append mt_append (pv 3) (pa_cons (pe_lc (own := [("_law_rule", 7)]) (g := gName 7) (tt := tAnd (tTest (tOp rEq (tOp (rIxT K) (tVar 7) (tC (.int 1))) (tOp (rIxT K) (tOp (rIxL K) (tVar 1) (tVar 4)) (tC (.int 0))))) (tB (tCall (spFits 103) [] C8.E0 (tCons (tOp (rIxT K) (tVar 7) (tC (.int 2))) (tCons (tVar 5) tNil))))) (te := tOp (rIxT K) (tVar 7) (tC (.int 0))) rfl scSets.nd  (pi_list (pv 0)) (blkOk_by (N := nSets) (sc := defScope sLawSets) (by decide +kernel)) (fun _ _ _ _ _ => pg_name (i := 7) scSets.nd rfl (Or.inl rfl)) (fun _ _ _ _ _ => pts_one (PW.pt (pw_and (pt_cmpR op_eq (pe_ix ix_tup (pv 7) pe_int (fun _ _ => rfl)) (pe_ix ix_tup (pe_ix ix_list (pv 1) (pv 4) (fun _ _ => rfl)) pe_int (fun _ _ => rfl)) (nomark _)) (pw_and1 (pt_val (pe_c (ok_fit T 103 (by decide)).1 hr (by decide) rfl (pa_cons (pe_ix ix_tup (pv 7) pe_int (fun _ _ => rfl)) (pa_cons (pv 5) pa_nil)))))))) (fun _ _ _ _ _ => (pe_ix ix_tup (pv 7) pe_int (fun _ _ => rfl)))) pa_nil))))))
(pss_one (ps_ret (pv 3))))), ?_⟩
  obtain ⟨rvs, er, erl, erg⟩ := rs_get hR
  have hR8 := rs.few
  have hdvl := dats_len hdv
  rw [docDs_map, List.length_map] at hdvl
  have hknl := np.len
  refine ⟨(by show 0 ≤ sizeLine; decide), fun gl hgl => ?_⟩
  have s1 : Same H (upd H gl (.lst [])) := same_new hgl _
  refine ⟨_, rfl, dl, _, rfl, .inl (SqL.of (s1 _ _ edl)), (dvs.length : Int), rfl, by omega, by omega, for_range (n := (dvs.length : Int).toNat) (fun i σ H' => ∃ (u4 u5 : Option V) (as : List Addr), σ = [some (.ref rl), some (.ref dl), some (.ref kl), some (.ref gl), u4, u5, none, none] ∧ Same H H' ∧ H' gl = some (.lst (as.map V.ref)) ∧ as.length = i ∧ ∀ (j : Nat) (a : Addr) (d : Doc), as[j]? = some a → ds[j]? = some d → H' a = some (.lst ((fo R d).map V.str)) ∧ a ≠ gl) ?_ ?_ ?_⟩
  · exact ⟨none, none, [], rfl, s1, upd_same, rfl, fun j a d e _ => by simp at e⟩
  · rintro i σ H2 hi ⟨u4, u5, as, rfl, s2, egl, hal, has⟩
    rw [Int.toNat_natCast] at hi
    rw [Int.zero_add]
    have hid : i < ds.length := by omega
    have hik : i < kss.length := by omega
    have hia : i < kas.length := by omega
    have ed : ds[i]? = some ds[i] := List.getElem?_eq_getElem hid
    have ek : kss[i]? = some kss[i] := List.getElem?_eq_getElem hik
    have eka : kas[i]? = some kas[i] := List.getElem?_eq_getElem hia
    obtain ⟨kr, k4⟩ := np.rel i _ _ ek ed
    have hkids := hkas i _ _ eka ek
    have hsz := np.siz _ (List.getElem_mem hid)
    -- the row
    refine ⟨_, rfl, _, rfl, kl, _, _, _, rfl, rfl, SqL.of (s2 _ _ ekl), atI_nat (j := i) (v := .ref kas[i]) (by rw [List.getElem?_map, eka]; rfl), kas[i], rfl, ⟨_, SqL.of (s2 _ _ hkids)⟩, fun D hD => ?_⟩
    refine rd_lc walk_list yat_eq hD (by rw [List.length_map]; omega) (fun j y H' => ∃ a, y = .ref a ∧ ∀ jj, (kss[i])[j]? = some jj → as[jj]? = some a) (fun j y H1 H2 z q => q) (fun H' s' => SqL.of (s' _ _ (s2 _ _ hkids))) (fun j x H' C hj y s' k' => ?_) (fun H3 acc s3 hacc hl3 hf => ?_)
    · rw [List.length_map] at hj
      have hy := y.2
      rw [intsV_at hj] at hy
      have hy := Option.some.inj hy
      subst hy
      have hlt := kr.1 _ (List.getElem_mem hj)
      have hja : (kss[i])[j] < as.length := by omega
      refine ⟨_, rfl, _, rfl, gl, _, _, _, rfl, rfl, SqL.of (s' _ _ egl), atI_nat (j := (kss[i])[j]) (v := .ref as[(kss[i])[j]]) (by rw [List.getElem?_map, List.getElem?_eq_getElem hja]; rfl), k' _ H' (Same.refl _) ⟨_, rfl, fun jj e => ?_⟩⟩
      rw [List.getElem?_eq_getElem hj] at e
      cases e
      exact List.getElem?_eq_getElem hja
    rw [List.length_map] at hl3 hf
    obtain ⟨bs, e1, e2, e3⟩ := acc_of (f := V.ref) hl3 hf
    subst e1
    have hrow : RowsAt H3 D ((ds[i]).kids.map (fo R)) := by
      refine ⟨bs, hacc, by rw [e2, List.length_map, kr.len], fun m b z f1 f2 => ?_⟩
      have hm := (List.getElem?_eq_some_iff.mp f1).1
      have hm2 : m < (kss[i]).length := by omega
      have em := List.getElem?_eq_getElem hm2
      obtain ⟨c, c1, c2⟩ := kr.get em
      rw [List.getElem?_map, c1] at f2
      have f2 := Option.some.inj f2
      subst f2
      exact s3 _ _ (has _ _ _ (e3 m b f1 _ em) c2).1
    have hrl : ((ds[i]).kids.map (fo R)).length ≤ 4 := by rw [List.length_map, kr.len]; exact k4
    have s03 := s2.trans s3
    obtain ⟨dv, d1, d2⟩ := (docDs_get (DAts.fz (fz_same s03) hdv)).2 _ _ ed
    obtain ⟨da, dt, dvs2, rfl, ea, et, _⟩ := doc_at d2
    -- the forms
    refine ⟨_, rfl, .inl ⟨rfl, _, SqL.of (s3 _ _ egl)⟩, _, rfl, rl, rfl, ⟨_, SqL.of (s03 _ _ er)⟩, fun D5 hD5 => ?_⟩
    refine rd_lcT walk_list yat_eq (fun j acc5 H5 => Same H3 H5 ∧ acc5 = (foR (R.take j) (ds[i]).name ((ds[i]).kids.map (fo R))).map V.str) ⟨same_new hD5 _, rfl⟩ (fun j acc5 H5 h5 => SqL.of (h5.1 _ _ (s03 _ _ er))) (fun j x H5 acc5 Ct Cf hj y ⟨s5, ea5⟩ hacc5 hal5 kt kf => ?_) (fun H5 acc5 ⟨s5, ea5⟩ hacc5 hal5 => ?_)
    · have hjR : j < R.length := by omega
      obtain ⟨ra, rd, r1, r2, r3⟩ := erg j hjR
      have hx := y.2
      rw [r1] at hx
      have hx := Option.some.inj hx
      subst hx
      have s05 := s03.trans s5
      have nx := foR_take (R := R) (nm := (ds[i]).name) (row := (ds[i]).kids.map (fo R)) (List.getElem?_eq_getElem hjR)
      have pb := (rs.ok R[j] (List.getElem_mem hjR)).2.2
      have pz : sz R[j].2.2 ≤ 103 := pb.z
      refine ⟨_, rfl, ra, _, _, _, rfl, rfl, SqT.of (s05 _ _ r2), at1, _, rfl, _, rfl, dl, _, _, _, rfl, rfl, SqL.of (s05 _ _ edl), atI_nat d1, da, _, _, _, rfl, rfl, SqT.of (s5 _ _ ea), at0, rfl, _, rfl, ?_⟩
      by_cases hn : R[j].2.1 = (ds[i]).name
      · rw [decide_eq_true (by rw [hn])]
        refine iteT ?_
        refine ⟨_, rfl, ra, _, _, _, rfl, rfl, SqT.of (s05 _ _ r2), at2, _, rfl, _, _, rfl, R[j].2.2, D, _, rfl, r3.fz (fz_same s05), hrow.same s5, hrl, pz, ct_of _ pb.cn, fun H6 s6 => ⟨_, rfl, ?_⟩⟩
        by_cases hL : L R[j].2.2 ((ds[i]).kids.map (fo R))
        · rw [decide_eq_true hL]
          refine iteT ?_
          rw [if_pos ⟨hn, hL⟩] at nx
          refine ⟨_, rfl, ra, _, _, _, rfl, rfl, SqT.of (s6 _ _ (s05 _ _ r2)), at0, ?_⟩
          refine kt _ H6 (s6 _ _ hacc5) (by rw [sizeLine_eq]; omega) ⟨fun b o e => ?_, ?_⟩
          · rw [upd_ne (ne_of_none e hD5)]
            exact s6 _ _ (s5 _ _ e)
          · rw [nx, List.map_append, ← ea5]
            rfl
        · rw [decide_eq_false hL]
          refine iteF ?_
          rw [if_neg (fun z => hL z.2), List.append_nil] at nx
          exact kf H6 (s6 _ _ hacc5) ⟨s5.trans s6, by rw [nx]; exact ea5⟩
      · rw [decide_eq_false (fun z => hn (by injection z))]
        refine iteF ?_
        refine iteF ?_
        rw [if_neg (fun z => hn z.1), List.append_nil] at nx
        exact kf H5 hacc5 ⟨s5, by rw [nx]; exact ea5⟩
    rw [erl, List.take_length, ← fo_eq] at ea5
    have egl5 := s5 _ _ (s3 _ _ egl)
    have ngl : D5 ≠ gl := (ne_of_none (s3 _ _ egl) hD5).symm
    refine ⟨gl, _, _, rfl, rfl, egl5, by rw [List.length_map, sizeLine_eq]; omega, ?_⟩
    refine ⟨_, _, as ++ [D5], rfl, fun b o e => by rw [upd_ne (ne_of_none e hgl)]; exact s5 _ _ (s03 _ _ e), by rw [upd_same, List.map_append]; rfl, by rw [List.length_append, hal]; rfl, fun j a d f1 f2 => ?_⟩
    by_cases hj : j < as.length
    · rw [List.getElem?_append_left hj] at f1
      obtain ⟨w1, w2⟩ := has j a d f1 f2
      exact ⟨by rw [upd_ne w2]; exact s5 _ _ (s3 _ _ w1), w2⟩
    · have hji : j = i := by
        have := (List.getElem?_eq_some_iff.mp f1).1
        rw [List.length_append] at this
        simp at this
        omega
      subst hji
      rw [List.getElem?_append_right (by omega), hal, Nat.sub_self] at f1
      have f1 : D5 = a := Option.some.inj f1
      subst f1
      rw [ed] at f2
      have f2 := Option.some.inj f2
      subst f2
      exact ⟨by rw [upd_ne ngl, hacc5, ea5], ngl⟩
  · rintro σ H2 ⟨u4, u5, as, rfl, s2, egl, hal, has⟩
    rw [Int.toNat_natCast] at hal
    exact ⟨_, rfl, q gl H2 s2 ⟨as, egl, by omega, fun i a d e1 e2 => (has i a d e1 e2).1⟩⟩
end
end KG
end
section
set_option Elab.async false
set_option linter.all false
set_option autoImplicit false
set_option maxRecDepth 100000
set_option maxHeartbeats 4000000
/-! ## _law_order -/
namespace KG
open PySem PySem.Spec PyProof.Rows L2 KM
open C8 (Cal Met Mak pe_c pe_mk pe_mt pe_mt0)
/-- places with the numbers of the documents there -/
def OrdAt (H : Hp) (ds : List Doc) (es : List (List Nat × Doc)) (vs : List V) : Prop := vs.length = es.length ∧ ∀ (i : Nat) (e : List Nat × Doc) (v : V), es[i]? = some e → vs[i]? = some v → ∃ (a b : Addr) (k : Nat), v = .ref a ∧ H a = some (.tup [.ref b, .int (k : Int)]) ∧ H b = some (.tup (intsV e.1)) ∧ ds[k]? = some e.2
theorem OrdAt.fz {H H' : Hp} {ds : List Doc} {es : List (List Nat × Doc)} {vs : List V} (z : Fz H H') (h : OrdAt H ds es vs) : OrdAt H' ds es vs := ⟨h.1, fun i e v e1 e2 => by
  obtain ⟨a, b, k, q1, q2, q3, q4⟩ := h.2 i e v e1 e2
  exact ⟨a, b, k, q1, z _ _ True.intro q2, z _ _ True.intro q3, q4⟩⟩
theorem OrdAt.app {H : Hp} {ds : List Doc} {es fs : List (List Nat × Doc)} {vs ws : List V} (h : OrdAt H ds es vs) (k : OrdAt H ds fs ws) : OrdAt H ds (es ++ fs) (vs ++ ws) := by
  refine ⟨by rw [List.length_append, List.length_append, h.1, k.1], fun i e v h1 h2 => ?_⟩
  by_cases hi : i < es.length
  · rw [List.getElem?_append_left hi] at h1
    rw [List.getElem?_append_left (by rw [h.1]; exact hi)] at h2
    exact h.2 i e v h1 h2
  · rw [List.getElem?_append_right (by omega)] at h1
    rw [List.getElem?_append_right (by rw [h.1]; omega), h.1] at h2
    exact k.2 _ e v h1 h2
section
variable {P : Program} {w : World} {K : PySem.W.Frag} {mg : Str → Option Value} {base : Heap} {N : Nm}
def spOrder (n : Nat) : Sp := sp3 fun v u z H Q => ∃ (kl : Addr) (ds : List Doc) (kss : List (List Nat)) (k : Nat) (d : Doc) (b : Addr) (pl : List Nat), v = .ref kl ∧ u = .int (k : Int) ∧ z = .ref b ∧ KidsAt H kl kss ∧ NearP ds kss ∧ ds[k]? = some d ∧ dep d ≤ n ∧ H b = some (.tup (intsV pl)) ∧ pl.length + n ≤ 1000 ∧
  ∀ l H' vs, Same H H' → H l = none → H' l = some (.lst vs) → OrdAt H' ds (ents d pl) vs → Q (.ref l) H'
abbrev nOrder : List Str := ["_law_kids", "_law_k", "_law_place", "_law_found", "_law_j"]
theorem scOrder : FnScope nOrder ["_law_kids", "_law_k", "_law_place"] (defScope sLawOrder) := ⟨rfl, rfl, rfl, by decide +kernel, rfl, by decide +kernel, by decide +kernel⟩
theorem ok_order (T : Tx K mg N) : ∀ n : Nat, Cal P w K mg base (n + 1) "_law_order" (spOrder n) []
  | 0 => cal_no T.d_law_order (ps := ["_law_kids", "_law_k", "_law_place"]) (fun _ _ _ _ _ _ us hl => match us, hl with | [_, _, _], _ => rfl) (by
      rintro vs H Q E ⟨_, _, _, _, _, _, _, _, d, _, _, _, _, _, _, _, _, h, _⟩
      have := dep_pos d
      omega)
  | n + 1 => by
    have ih := ok_order T n
    refine T.d_law_order.cal scOrder (fun _ _ _ _ _ _ us hl => match us, hl with | [_, _, _], _ => rfl) len3 (fun f cdv A outer s H vs Q E hr h => ?_)
    obtain ⟨_, _, _, rfl, kl, ds, kss, k, d, b, pl, rfl, rfl, rfl, ⟨kas, ekl, hkal, hkas⟩, np, hd, hdep, hb, hpl, q⟩ := h
    refine ⟨_, (pss_cons (ps_set (i := 3) scOrder.nd rfl (Or.inl rfl) (pe_lst (pa_cons (pe_tup (pa_cons (pv 2) (pa_cons (pv 1) pa_nil))) pa_nil)))
(pss_cons (ps_for PassesOwn.never rfl (pi_range1 (by rfl) T.z_range (pa_cons (pe_callB call_len_seq (by rfl) T.z_len PySem.boot_len (pa_cons (pe_ix ix_list (pv 0) (pv 1) (fun _ _ => rfl)) pa_nil)) pa_nil)) (pg_name (i := 4) scOrder.nd rfl (Or.inl rfl))
(pss_one (ps_expr (pe_bm PySem.F.plainAttrs_list PySem.F.slot_list_extend PySem.F.type_list_extend mt_extend (pv 3) (pa_cons (pe_c ih hr (Nat.le_refl _) rfl (pa_cons (pv 0) (pa_cons (pe_ix ix_list (pe_ix ix_list (pv 0) (pv 1) (fun _ _ => rfl)) (pv 4) (fun _ _ => rfl)) (pa_cons (pe_op op_catA (pv 2) (pe_tup (pa_cons (pv 4) pa_nil))) pa_nil)))) pa_nil)))))
(pss_one (ps_ret (pv 3))))), ?_⟩
    have hkd : k < ds.length := (List.getElem?_eq_some_iff.mp hd).1
    have hknl := np.len
    have hik : k < kss.length := by omega
    have hia : k < kas.length := by omega
    have ek : kss[k]? = some kss[k] := List.getElem?_eq_getElem hik
    have eka : kas[k]? = some kas[k] := List.getElem?_eq_getElem hia
    obtain ⟨kr, k4⟩ := np.rel k _ _ ek hd
    have hkids := hkas k _ _ eka ek
    have hsz40 := np.siz _ (List.mem_of_getElem? hd)
    have hkrl := kr.len
    have hdk : deps d.kids ≤ n ∧ siz d = sizs d.kids + 1 ∧ ents d pl = (pl, d) :: entss d.kids pl 0 := by
      cases d with
      | mk n ks => rw [dep] at hdep; exact ⟨by show deps ks ≤ _; omega, by rw [siz]; rfl, by rw [ents]; rfl⟩
    obtain ⟨hdk, hsz, hent⟩ := hdk
    refine ⟨_, rfl, _, rfl, (by show 2 ≤ sizeLine; decide), fun p0 hp0 => ⟨(by show 1 ≤ sizeLine; decide), fun g hg => ?_⟩⟩
    have s0 : Same H (upd H p0 (.tup [.ref b, .int (k : Int)])) := same_new hp0 _
    have s1 := same_new hg (.lst [.ref p0])
    have s01 := s0.trans s1
    have ep0 : upd (upd H p0 (.tup [.ref b, .int (k : Int)])) g (.lst [.ref p0]) p0 = some (.tup [.ref b, .int (k : Int)]) := s1 _ _ upd_same
    have eg0 : upd (upd H p0 (.tup [.ref b, .int (k : Int)])) g (.lst [.ref p0]) g = some (.lst [.ref p0]) := upd_same
    have hgH : H g = none := none_same s0 hg
    generalize upd (upd H p0 (.tup [.ref b, .int (k : Int)])) g (.lst [.ref p0]) = H1 at *
    refine ⟨_, rfl, _, rfl, kl, _, _, _, rfl, rfl, SqL.of (s01 _ _ ekl), atI_nat (j := k) (v := .ref kas[k]) (by rw [List.getElem?_map, eka]; rfl), kas[k], _, rfl, .inl (SqL.of (s01 _ _ hkids)), ((kss[k]).length : Int), by rw [List.length_map], by omega, by omega, ?_⟩
    refine for_range (n := ((kss[k]).length : Int).toNat) (fun i σ H' => ∃ (u4 : Option V) (ys : List V), σ = [some (.ref kl), some (.int (k : Nat)), some (.ref b), some (.ref g), u4] ∧ Same H H' ∧ H' p0 = some (.tup [.ref b, .int (k : Int)]) ∧ H' g = some (.lst (.ref p0 :: ys)) ∧ OrdAt H' ds (entss (d.kids.take i) pl 0) ys) ?_ ?_ ?_
    · exact ⟨none, [], rfl, s01, ep0, eg0, by rw [List.take_zero, entss]; rfl, fun i e v h1 h2 => by simp at h2⟩
    · rintro i σ H2 hi ⟨u4, ys, rfl, s2, ep, eg, hord⟩
      rw [Int.toNat_natCast] at hi
      rw [Int.zero_add]
      have hic : i < d.kids.length := by omega
      have ejs := List.getElem?_eq_getElem hi
      obtain ⟨c, c1, c2⟩ := kr.get ejs
      have hcm := List.mem_of_getElem? c1
      have hcd := deps_mem hcm
      have hysl : ys.length = sizs (d.kids.take i) := by rw [hord.1, entss_len]
      have hszi : sizs (d.kids.take i) + siz c ≤ sizs d.kids := by
        have e := congrArg sizs (List.take_append_drop i d.kids)
        have e2 : (d.kids)[i] = c := by rw [List.getElem?_eq_getElem hic] at c1; exact Option.some.inj c1
        rw [sizs_append, List.drop_eq_getElem_cons hic, sizs, e2] at e
        omega
      refine ⟨_, rfl, .inl ⟨rfl, _, SqL.of eg⟩, _, rfl, _, rfl, _, rfl, kl, _, _, _, rfl, rfl, SqL.of (s2 _ _ ekl), atI_nat (j := k) (v := .ref kas[k]) (by rw [List.getElem?_map, eka]; rfl), _, rfl, kas[k], _, _, _, rfl, rfl, SqL.of (s2 _ _ hkids), atI_nat (intsV_at hi), _, rfl, _, rfl, (by show 1 ≤ sizeLine; decide), fun pk hpk => ?_⟩
      have sk : Same H2 (upd H2 pk (.tup [.int (i : Nat)])) := same_new hpk _
      have epk : upd H2 pk (.tup [.int (i : Nat)]) pk = some (.tup [.int (i : Nat)]) := upd_same
      generalize upd H2 pk (.tup [.int (i : Nat)]) = H3 at *
      have s3 := s2.trans sk
      have rest : ∀ (bp : Addr) (H4 : Hp), Same H3 H4 → H4 bp = some (.tup (intsV (pl ++ [i]))) →
          ∀ (Q' : VK), (∀ y H5, (∃ (l : Addr) (ws : List V), y = .ref l ∧ Same H3 H5 ∧ H5 l = some (.lst ws) ∧ ws.length = siz c ∧ OrdAt H5 ds (entss (d.kids.take (i + 1)) pl 0) (ys ++ ws)) → Q' y H5) → spOrder n [.ref kl, .int ((kss[k])[i] : Nat), .ref bp] H4 Q' C8.E0 := fun bp H4 s4 ebp Q' kq => by
        have s04 := s3.trans s4
        refine ⟨_, _, _, rfl, kl, ds, kss, (kss[k])[i], c, bp, pl ++ [i], rfl, rfl, rfl, ⟨kas, s04 _ _ ekl, hkal, fun i a js e1 e2 => s04 _ _ (hkas i a js e1 e2)⟩, np, c2, by omega, ebp, by rw [List.length_append]; simp; omega, fun l H5 ws s5 hl5 el5 ho5 => ?_⟩
        refine kq _ _ ⟨l, ws, rfl, s4.trans s5, el5, by rw [ho5.1, ents_len], ?_⟩
        rw [take_snoc c1, entss_snoc, List.length_take, Nat.min_eq_left (by omega), Nat.zero_add]
        exact (hord.fz (fz_same (sk.trans (s4.trans s5)))).app ho5
      have fin : ∀ (y : V) (H5 : Hp) (l : Addr) (ws : List V), y = .ref l → Same H3 H5 → H5 l = some (.lst ws) → ws.length = siz c → OrdAt H5 ds (entss (d.kids.take (i + 1)) pl 0) (ys ++ ws) →
          ∀ (Q'' : Hp → Prop), (∀ H6, (∃ (u4 : Option V) (ys : List V), [some (V.ref kl), some (.int (k : Nat)), some (.ref b), some (.ref g), some (.int (i : Nat))] = [some (.ref kl), some (.int (k : Nat)), some (.ref b), some (.ref g), u4] ∧ Same H H6 ∧ H6 p0 = some (.tup [.ref b, .int (k : Int)]) ∧ H6 g = some (.lst (.ref p0 :: ys)) ∧ OrdAt H6 ds (entss (d.kids.take (i + 1)) pl 0) ys) → Q'' H6) → rExtend (.ref g) [y] H5 (fun _ H6 => Q'' H6) := fun y H5 l ws ey s5 el hwl ho Q'' kq => by
        subst ey
        have eg5 := s5 _ _ (sk _ _ eg)
        refine ⟨g, l, _, _, rfl, rfl, eg5, el, by rw [List.length_cons, sizeLine_eq]; omega, ?_⟩
        refine kq _ ⟨_, ys ++ ws, rfl, fun x o e => by rw [upd_ne (ne_of_none e hgH)]; exact s5 _ _ (s3 _ _ e), by rw [upd_ne (ne_of ep eg (fun z => nomatch z))]; exact s5 _ _ (sk _ _ ep), by rw [upd_same]; rfl, ho.fz (fz_updL eg5)⟩
      refine ⟨b, pk, _, _, rfl, rfl, SqT.of (s3 _ _ hb), SqT.of epk, by rw [List.length_map, sizeLine_eq]; simp; omega, fun h0 => ?_, fun _ h => (by simp at h), fun h0 _ bp hbp => ?_⟩
      · have hpl0 : pl = [] := List.map_eq_nil_iff.mp h0
        exact rest pk H3 (Same.refl _) (by rw [epk, hpl0]; rfl) _ fun y H5 ⟨l, ws, ey, s5, el, hwl, ho⟩ => fin y H5 l ws ey s5 el hwl ho _ fun H6 h => h
      · have sb : Same H3 (upd H3 bp (.tup (intsV pl ++ [.int (i : Nat)]))) := same_new hbp _
        exact rest bp _ sb (by rw [upd_same]; unfold intsV; rw [List.map_append]; rfl) _ fun y H5 ⟨l, ws, ey, s5, el, hwl, ho⟩ => fin y H5 l ws ey s5 el hwl ho _ fun H6 h => h
    · rintro σ H2 ⟨u4, ys, rfl, s2, ep, eg, hord⟩
      rw [Int.toNat_natCast, ← hkrl, List.take_length] at hord
      refine ⟨_, rfl, q g H2 _ s2 hgH eg ?_⟩
      rw [hent]
      refine ⟨by rw [List.length_cons, List.length_cons, hord.1], fun i e v e1 e2 => ?_⟩
      cases i with
      | zero =>
        cases e1
        cases e2
        exact ⟨p0, b, k, rfl, ep, s2 _ _ hb, hd⟩
      | succ i => exact hord.2 i e v e1 e2
end
end KG
end
section
set_option Elab.async false
set_option linter.all false
set_option autoImplicit false
set_option maxRecDepth 100000
set_option maxHeartbeats 4000000
/-! ## _law_list, _law_place_told -/
namespace KG
open PySem PySem.Spec PyProof.Rows L2 KM
open C8 (Cal Met Mak pe_c pe_mk pe_mt pe_mt0)
open RZ (call_isTy rIsTy Ty4)
section
variable {P : Program} {w : World} {K : PySem.W.Frag} {mg : Str → Option Value} {base : Heap} {N : Nm}
def spList : Sp := sp2 fun v u H Q => ∃ (a b : Addr) (fs : List Str), v = .ref a ∧ u = .ref b ∧ H a = some (.lst (fs.map V.str)) ∧ H b = some (.lst (fs.map V.str)) ∧ fs.length ≤ 1000 ∧ ∀ H', Same H H' → Q (.bl true) H'
abbrev nList : List Str := ["_law_found", "_law_due", "_law_a", "_law_b"]
theorem scList : FnScope nList ["_law_found", "_law_due"] (defScope sLawList) := ⟨rfl, rfl, rfl, by decide +kernel, rfl, by decide +kernel, by decide +kernel⟩
theorem all_true (n : Nat) : (List.replicate n true).all id = true := by
  induction n with
  | zero => rfl
  | succ n ih => rw [List.replicate_succ, List.all_cons, ih]; rfl
theorem ok_list (T : Tx K mg N) : Cal P w K mg base 1 "_law_list" spList [] := by
  refine T.d_law_list.cal scList (fun _ _ _ _ _ _ us hl => match us, hl with | [_, _], _ => rfl) len2 (fun f cdv A outer s H vs Q E hr h => ?_)
  obtain ⟨_, _, rfl, a, b, fs, rfl, rfl, ha, hb, hfs, q⟩ := h
  refine ⟨_, (pss_cons (ps_if (PW.pt (pw_or (pt_not (pt_val (pe_callB call_isTy (by rfl) T.z_isinstance (by decide +kernel) (pa_cons (pv 0) (pa_cons (pe_bltn (v := .ty "list") (by rfl) T.z_list PyProof.Rows.boot_list rfl) pa_nil))))) (pw_or1 (pt_cmpR op_ne (pe_callB call_len_seq (by rfl) T.z_len PySem.boot_len (pa_cons (pv 0) pa_nil)) (pe_callB call_len_seq (by rfl) T.z_len PySem.boot_len (pa_cons (pv 1) pa_nil)) (nomark _))))) (pss_one (ps_ret pe_bl)) pss_nil)
(pss_one (ps_ret (pe_callB (cr_all rfl) (by rfl) T.z_all (by decide +kernel) (pa_cons (pe_lc (own := [("_law_a", 2), ("_law_b", 3)]) (g := gTup K 2 (gCons (gName 2) (gCons (gName 3) gNil))) (tt := tYes) (te := tAndV (tCB rIsTy (tCons (tVar 2) (tCons (tC (.ty "str")) tNil))) (tOp rEq (tVar 2) (tVar 3))) rfl scList.nd (pi_zip (by rfl) T.z_zip (pa_cons (pv 0) (pa_cons (pv 1) pa_nil))) (blkOk_by (N := nList) (sc := defScope sLawList) (by decide +kernel)) (fun _ _ _ _ _ => pg_tup (by rfl) (pgs_cons (pg_name (i := 2) scList.nd rfl (Or.inl rfl)) (pgs_cons (pg_name (i := 3) scList.nd rfl (Or.inl rfl)) pgs_nil))) (fun _ _ _ _ _ => pts_nil) (fun _ _ _ _ _ => pe_and (pe_callB call_isTy (by rfl) T.z_isinstance (by decide +kernel) (pa_cons (pv 2) (pa_cons (pe_bltn (v := .ty "str") (by rfl) T.z_str PyProof.Rows.boot_str rfl) pa_nil))) (pe_one (pe_cmpR op_eq (pv 2) (pv 3) (nomark _))))) pa_nil))))), ?_⟩
  refine ⟨_, rfl, _, _, rfl, .lst ha, _, rfl, ?_⟩
  refine iteF ?_
  refine ⟨_, rfl, a, _, rfl, .inl (SqL.of ha), _, rfl, b, _, rfl, .inl (SqL.of hb), rfl, _, rfl, ?_⟩
  rw [decide_eq_true (p := V.int ((fs.map V.str).length : Int) = V.int ((fs.map V.str).length : Int)) rfl]
  refine iteF ?_
  refine ⟨_, rfl, _, rfl, a, b, _, _, rfl, SqL.of ha, SqL.of hb, fun D hD => ?_⟩
  refine lc_it (vs := [2, 3]) (walk_zip (n := fs.length) (by rw [List.length_map, Nat.min_self])) (fun k H' => Same H H' ∧ H' D = some (.lst ((List.replicate k true).map V.bl))) ⟨same_new hD _, upd_same⟩ (fun i H' _ h => ⟨SqL.of (h.1 _ _ ha), SqL.of (h.1 _ _ hb)⟩) ?_ ?_
  · rintro i x H1 H2 hi ⟨s1, eD⟩ ⟨t, y, z, rfl, ht, rfl, e1, e2⟩
    have s2 := same_new ht (.tup [y, z])
    have hD1 := hD
    have e3 : z = y := by rw [e1] at e2; exact (Option.some.inj e2).symm
    subst e3
    have e1 : (fs.map V.str)[i]? = some z := e1
    rw [List.getElem?_map] at e1
    obtain ⟨f0, _, ef⟩ := Option.map_eq_some_iff.mp e1
    subst ef
    refine ⟨t, _, rfl, SqT.of upd_same, rfl, _, _, rfl, _, _, rfl, rfl, rfl, ?_⟩
    refine iteT (B := Same H (upd H1 t (.tup [V.str f0, V.str f0])) ∧ (upd H1 t (.tup [V.str f0, V.str f0])) D = some (.lst ((List.replicate (i + 1) true).map V.bl))) ?_
    refine ⟨_, rfl, _, _, rfl, .str f0, _, rfl, ?_⟩
    refine iteT ?_
    refine ⟨_, rfl, _, rfl, rfl, _, s2 _ _ eD, by rw [List.length_map, List.length_replicate, sizeLine_eq]; omega, fun x o e => by rw [upd_ne (ne_of_none e hD1)]; exact s2 _ _ (s1 _ _ e), ?_⟩
    rw [upd_same, List.replicate_succ', List.map_append, decide_eq_true rfl]
    rfl
  · rintro H1 ⟨s1, eD⟩
    refine ⟨D, List.replicate fs.length true, rfl, SqL.of eD, ?_⟩
    rw [all_true]
    exact q H1 s1
def spPlace : Sp := sp3 fun v u z H Q => ∃ (a b c l m : Addr) (pl : List Nat) (fs : List Str), v = .ref a ∧ u = .ref c ∧ z = .ref m ∧ H a = some (.tup [.ref b, .ref l]) ∧ H b = some (.tup (intsV pl)) ∧ H c = some (.tup (intsV pl)) ∧ H l = some (.lst (fs.map V.str)) ∧ H m = some (.lst (fs.map V.str)) ∧ fs.length ≤ 1000 ∧ ∀ H', Same H H' → Q (.bl true) H'
theorem scPlace : FnScope ["_law_row", "_law_place", "_law_due"] ["_law_row", "_law_place", "_law_due"] (defScope sLawPlaceTold) := ⟨rfl, rfl, rfl, by decide +kernel, rfl, by decide +kernel, by decide +kernel⟩
def plD (pl : List Nat) : Dt := .tup (pl.map fun (n : Nat) => Dt.int (n : Int))
theorem plD_at {H : Hp} {b : Addr} {pl : List Nat} (h : H b = some (.tup (intsV pl))) : DAt H (plD pl) (.ref b) := by
  unfold plD
  rw [DAt]
  refine ⟨b, _, rfl, h, ?_⟩
  unfold intsV
  clear h
  induction pl with
  | nil => simp [DAts]
  | cons n pl ih =>
    rw [List.map_cons, List.map_cons, DAts, DAt]
    exact ⟨rfl, ih⟩
theorem plD_ok (pl : List Nat) : dtOk (plD pl) = true ∧ dtDp (plD pl) ≤ 60 := by
  unfold plD
  rw [dtOk, dtDp]
  have h : dtOks (pl.map fun (n : Nat) => Dt.int (n : Int)) = true ∧ dtDps (pl.map fun (n : Nat) => Dt.int (n : Int)) = 0 := by
    induction pl with
    | nil => exact ⟨by simp [dtOks], by simp [dtDps]⟩
    | cons n pl ih =>
      rw [List.map_cons, dtOks, dtDps, dtOk, dtDp, ih.1, ih.2]
      exact ⟨rfl, rfl⟩
  rw [h.1, h.2]
  exact ⟨rfl, by omega⟩
theorem ok_place (T : Tx K mg N) : Cal P w K mg base 2 "_law_place_told" spPlace [] := by
  refine T.d_law_place_told.cal scPlace (fun _ _ _ _ _ _ us hl => match us, hl with | [_, _, _], _ => rfl) len3 (fun f cdv A outer s H vs Q E hr h => ?_)
  obtain ⟨_, _, _, rfl, a, b, c, l, m, pl, fs, rfl, rfl, rfl, ha, hb, hc, hl, hm, hfs, q⟩ := h
  refine ⟨_, (pss_cons (ps_if (PW.pt (pw_or (pt_not (pt_val (pe_callB call_isTy (by rfl) T.z_isinstance (by decide +kernel) (pa_cons (pv 0) (pa_cons (pe_bltn (v := .ty "tuple") (by rfl) T.z_tuple PyProof.Rows.boot_tuple rfl) pa_nil))))) (pw_or (pt_cmpR op_ne (pe_callB call_len_seq (by rfl) T.z_len PySem.boot_len (pa_cons (pv 0) pa_nil)) pe_int (nomark _)) (pw_or (pt_not (pt_val (pe_callB call_isTy (by rfl) T.z_isinstance (by decide +kernel) (pa_cons (pe_ix ix_tup (pv 0) pe_int (fun _ _ => rfl)) (pa_cons (pe_bltn (v := .ty "tuple") (by rfl) T.z_tuple PyProof.Rows.boot_tuple rfl) pa_nil))))) (pw_or1 (pt_cmpR (op_neD hr.units) (pe_ix ix_tup (pv 0) pe_int (fun _ _ => rfl)) (pv 1) (nomark _))))))) (pss_one (ps_ret pe_bl)) pss_nil)
(pss_one (ps_ret (pe_c (ok_list T) hr (by decide) rfl (pa_cons (pe_ix ix_tup (pv 0) pe_int (fun _ _ => rfl)) (pa_cons (pv 2) pa_nil)))))), ?_⟩
  obtain ⟨o1, o2⟩ := plD_ok pl
  refine ⟨_, rfl, _, _, rfl, .tup ha, _, rfl, ?_⟩
  refine iteF ?_
  refine ⟨_, rfl, a, _, rfl, .inr (SqT.of ha), rfl, _, rfl, ?_⟩
  refine iteF ?_
  refine ⟨_, rfl, a, _, _, _, rfl, rfl, SqT.of ha, at0, _, _, rfl, .tup hb, _, rfl, ?_⟩
  refine iteF ?_
  refine ⟨_, rfl, a, _, _, _, rfl, rfl, SqT.of ha, at0, _, rfl, _, _, dp_of _ _ (plD_at hb), dp_of _ _ (plD_at hc), shaped_of o1 o2, shaped_of o1 o2, _, rfl, ?_⟩
  rw [(eqv_iff (plD pl) (plD pl)).mpr rfl]
  refine iteF ?_
  exact ⟨_, rfl, a, _, _, _, rfl, rfl, SqT.of ha, at1, _, rfl, _, _, rfl, l, m, fs, rfl, rfl, hl, hm, hfs, q⟩
end
end KG
end
section
set_option Elab.async false
set_option linter.all false
set_option autoImplicit false
set_option maxRecDepth 100000
set_option maxHeartbeats 4000000
/-! ## law -/
namespace KG
open PySem PySem.Spec PyProof.Rows L2 KM
open C8 (Cal Met Mak pe_c pe_mk pe_mt pe_mt0)
open RZ (call_isTy rIsTy Ty4)
mutual
theorem dep_siz : ∀ d : Doc, dep d ≤ siz d
  | .mk n ks => by rw [dep, siz]; have := deps_sizs ks; omega
theorem deps_sizs : ∀ ds : List Doc, deps ds ≤ sizs ds
  | [] => by rw [deps]; omega
  | d :: ds => by rw [deps, sizs]; have := dep_siz d; have := deps_sizs ds; omega
end
theorem at_neg {xs : List V} {v : V} (h : xs[xs.length - 1]? = some v) : atI xs (-1) = some v := by
  have hl := (List.getElem?_eq_some_iff.mp h).1
  have e : xs = xs.take (xs.length - 1) ++ [v] := by
    have h1 := List.take_append_drop (xs.length - 1) xs
    rw [List.drop_eq_getElem_cons hl, List.drop_of_length_le (by omega)] at h1
    have h2 : xs[xs.length - 1] = v := (List.getElem?_eq_some_iff.mp h).2
    rw [h2] at h1
    exact h1.symm
  rw [e]
  exact atI_last _ _
theorem mm (x : Int) : ∃ m : Nat, 1 ≤ m ∧ m ≤ 14 ∧ (if (if x < 14 then x else 14) > 1 then (if x < 14 then x else 14) else 1) = (m : Int) := by
  by_cases h : x < 14
  · rw [if_pos h]
    by_cases h2 : x > 1
    · rw [if_pos h2]; exact ⟨x.toNat, by omega, by omega, by omega⟩
    · rw [if_neg h2]; exact ⟨1, by omega, by omega, rfl⟩
  · rw [if_neg h, if_pos (by omega)]; exact ⟨14, by omega, by omega, rfl⟩
theorem fo_few {R : List Rl} (h : R.length ≤ 8) (d : Doc) : (fo R d).length ≤ 1000 := by
  rw [fo_eq]
  exact Nat.le_trans foR_len (by omega)
section
variable {P : Program} {w : World} {K : PySem.W.Frag} {mg : Str → Option Value} {base : Heap} {N : Nm}
def spLaw (K : PySem.W.Frag) : Sp := fun vs H Q _ => ∃ (a : Addr) (ns : List Int), vs = [.ref a] ∧ SqL K H a (ns.map V.int) ∧ ∀ H', Q (.bl true) H'
abbrev nLaw : List Str := ["_law_script", "_law_pool", "_law_rules_here", "_law_cells", "_law_docs", "_law_kids", "_law_sets_here", "_law_book", "_law_refused", "_law_table", "_law_spots", "_law_found", "_law_k", "_law_place", "_law_at", "_law_rule"]
theorem scLaw : FnScope nLaw ["_law_script"] (defScope sLaw) := ⟨rfl, rfl, rfl, by decide +kernel, rfl, by decide +kernel, by decide +kernel⟩
theorem body_law (T : Tx K mg N) : Body0 P w K mg base nLaw "law" sLaw 105 (spLaw K) := by
  intro f cdv A outer s H vs Q E hr h
  obtain ⟨S, ns, rfl, hS, q⟩ := h
  obtain ⟨fm, fdm, Fm, mgm, kpm, bm⟩ := ok_machine (P := P) (w := w) (base := base) T
  refine ⟨_, (pss_cons (ps_set (i := 1) scLaw.nd rfl (Or.inl rfl) (pe_c (ok_names T) hr (by decide) rfl (pa_cons (pe_c (ok_cell T) hr (by decide) rfl (pa_cons (pv 0) (pa_cons pe_int pa_nil))) pa_nil)))
(pss_cons (ps_set (i := 2) scLaw.nd rfl (Or.inl rfl) (pe_c (ok_rules T) hr (by decide) rfl (pa_cons (pv 0) (pa_cons pe_int (pa_cons (pv 1) (pa_cons pe_int pa_nil))))))
(pss_cons (ps_setLc (i := 3) (own := [("_law_k", 12)]) (g := gName 12) (tt := tYes) (te := tCall (spCell K) [] C8.E0 (tCons (tVar 0) (tCons (tOp (rI0 fun i j => .int (i + j)) (tC (.int 10)) (tVar 12)) tNil))) rfl scLaw.nd rfl rfl (sw_true rfl rfl rfl (by decide +kernel)) (pi_range1 (by rfl) T.z_range (pa_cons (pe_callB (call_max2 rfl) (by rfl) T.z_max (by decide +kernel) (pa_cons pe_int (pa_cons (pe_callB (call_min2 rfl) (by rfl) T.z_min (by decide +kernel) (pa_cons pe_int (pa_cons (pe_op op_sub (pe_callB call_len_seq (by rfl) T.z_len PySem.boot_len (pa_cons (pv 0) pa_nil)) pe_int) pa_nil))) pa_nil))) pa_nil)) (blkOk_by (N := nLaw) (sc := defScope sLaw) (by decide +kernel)) (fun _ _ _ _ _ => pg_name (i := 12) scLaw.nd rfl (Or.inl rfl)) (fun _ _ _ _ _ => pts_nil) (fun _ _ _ _ _ => (pe_c (ok_cell T) hr (by decide) rfl (pa_cons (pv 0) (pa_cons (pe_op op_add pe_int (pv 12)) pa_nil)))))
(pss_cons (ps_asg (pe_c (ok_near T) hr (by decide) rfl (pa_cons (pv 2) (pa_cons (pv 3) (pa_cons (pe_c (ok_tags T) hr (by decide) rfl (pa_cons (pv 1) (pa_cons (pe_op op_fdiv (pe_c (ok_cell T) hr (by decide) rfl (pa_cons (pv 0) (pa_cons pe_int pa_nil))) pe_int) pa_nil))) pa_nil)))) (pg_tup (by rfl) (pgs_cons (pg_name (i := 4) scLaw.nd rfl (Or.inl rfl)) (pgs_cons (pg_name (i := 5) scLaw.nd rfl (Or.inl rfl)) pgs_nil))))
(pss_cons (ps_set (i := 6) scLaw.nd rfl (Or.inl rfl) (pe_c (ok_sets T) hr (by decide) rfl (pa_cons (pv 2) (pa_cons (pv 4) (pa_cons (pv 5) pa_nil)))))
(pss_cons (ps_set (i := 7) scLaw.nd rfl (Or.inl rfl) (pe_c (ok_book T) hr (by decide) rfl (pa_cons (pe_lc (own := [("_law_rule", 15)]) (g := gName 15) (tt := tYes) (te := tTup (tCons (tOp (rIxT K) (tVar 15) (tC (.int 0))) (tCons (tOp (rIxT K) (tVar 15) (tC (.int 1))) (tCons (tCall (spPof N 6) [] C8.E0 (tCons (tOp (rIxT K) (tVar 15) (tC (.int 2))) tNil)) tNil)))) rfl scLaw.nd  (pi_list (pv 2)) (blkOk_by (N := nLaw) (sc := defScope sLaw) (by decide +kernel)) (fun _ _ _ _ _ => pg_name (i := 15) scLaw.nd rfl (Or.inl rfl)) (fun _ _ _ _ _ => pts_nil) (fun _ _ _ _ _ => (pe_tup (pa_cons (pe_ix ix_tup (pv 15) pe_int (fun _ _ => rfl)) (pa_cons (pe_ix ix_tup (pv 15) pe_int (fun _ _ => rfl)) (pa_cons (pe_c (ok_pattern_of T 6) hr (by decide) rfl (pa_cons (pe_ix ix_tup (pv 15) pe_int (fun _ _ => rfl)) pa_nil)) pa_nil)))))) pa_nil)))
(pss_cons (ps_set (i := 8) scLaw.nd rfl (Or.inl rfl) pe_bl)
(pss_cons (ps_set (i := 9) scLaw.nd rfl (Or.inl rfl) pe_non)
(pss_cut (ps_try_only (tb := fun W => tAsg (tCallS (fun vs H Q E => ∃ R, RulesOk R ∧ spMachine N R vs H Q E) (WE W) (tCons (tVar 7) tNil)) (gName 9)) (ts := fun _ _ _ => tAsg (tC (.bl true)) (gName 8)) (Wout := fun _ _ _ _ => False) rfl rfl ⟨rfl, by decide, Or.inl T.many.1⟩ takes0 (fun W pn xe tk _ => pss_one (ps_set (i := 9) scLaw.nd rfl (Or.inl rfl) (pe_callS Fm (hr.mono (by decide)) rfl mgm kpm bm (fun σ => passAt tk σ) (by exact (pa_cons (pv 7) pa_nil))))) (fun _ _ _ _ _ _ _ => pss_one (ps_set (i := 8) scLaw.nd rfl (Or.inl rfl) pe_bl)))
(pss_cons (ps_if (pt_val (pv 8)) (pss_one (ps_ret pe_bl)) pss_nil)
(pss_cons (ps_set (i := 10) scLaw.nd rfl (Or.inl rfl) (pe_c (ok_order T 40) hr (by decide) rfl (pa_cons (pv 5) (pa_cons (pe_op op_sub (pe_callB call_len_seq (by rfl) T.z_len PySem.boot_len (pa_cons (pv 4) pa_nil)) pe_int) (pa_cons (pe_tup pa_nil) pa_nil)))))
(pss_cons (ps_set (i := 11) scLaw.nd rfl (Or.inl rfl) (pe_c (ok_marked_any T 40) hr (by decide) rfl (pa_cons (pv 9) (pa_cons (pe_ix ix_list (pv 4) (pe_un un_neg pe_int) (fun _ _ => rfl)) pa_nil))))
(pss_cons (ps_if (PW.pt (pw_or (pt_not (pt_val (pe_callB call_isTy (by rfl) T.z_isinstance (by decide +kernel) (pa_cons (pv 11) (pa_cons (pe_bltn (v := .ty "list") (by rfl) T.z_list PyProof.Rows.boot_list rfl) pa_nil))))) (pw_or1 (pt_cmpR op_ne (pe_callB call_len_seq (by rfl) T.z_len PySem.boot_len (pa_cons (pv 11) pa_nil)) (pe_callB call_len_seq (by rfl) T.z_len PySem.boot_len (pa_cons (pv 10) pa_nil)) (nomark _))))) (pss_one (ps_ret pe_bl)) pss_nil)
(pss_cons (ps_for PassesOwn.never rfl (pi_range1 (by rfl) T.z_range (pa_cons (pe_callB call_len_seq (by rfl) T.z_len PySem.boot_len (pa_cons (pv 10) pa_nil)) pa_nil)) (pg_name (i := 12) scLaw.nd rfl (Or.inl rfl))
(pss_cons (ps_asg (pe_ix ix_list (pv 10) (pv 12) (fun _ _ => rfl)) (pg_tup (by rfl) (pgs_cons (pg_name (i := 13) scLaw.nd rfl (Or.inl rfl)) (pgs_cons (pg_name (i := 14) scLaw.nd rfl (Or.inl rfl)) pgs_nil))))
(pss_cons (ps_if (pt_not (pt_val (pe_c (ok_place T) hr (by decide) rfl (pa_cons (pe_ix ix_list (pv 11) (pv 12) (fun _ _ => rfl)) (pa_cons (pv 13) (pa_cons (pe_ix ix_list (pv 6) (pv 14) (fun _ _ => rfl)) pa_nil)))))) (pss_one (ps_ret pe_bl)) pss_nil)
(pss_one (ps_if (pt_not (pt_val (pe_c (ok_list T) hr (by decide) rfl (pa_cons (pe_c (ok_forms_any T) hr (by decide) rfl (pa_cons (pv 9) (pa_cons (pe_c (ok_state_any T 39) hr (by decide) rfl (pa_cons (pv 9) (pa_cons (pe_ix ix_list (pv 4) (pv 14) (fun _ _ => rfl)) pa_nil))) pa_nil))) (pa_cons (pe_ix ix_list (pv 6) (pv 14) (fun _ _ => rfl)) pa_nil))))) (pss_one (ps_ret pe_bl)) pss_nil)))))
(pss_one (ps_ret pe_bl)))))))))))))))), ?_⟩
  -- names, rules
  refine ⟨_, rfl, _, _, rfl, S, ns, 0, rfl, rfl, hS, fun z0 => ⟨_, rfl, z0, rfl, fun pl H1 pool s1 epl np => ?_⟩⟩
  have hS1 := sql_same s1 hS
  refine ⟨_, rfl, _, rfl, _, _, _, _, rfl, S, ns, pl, pool, rfl, rfl, rfl, rfl, hS1, epl, np, fun rl H2 rvs R s2 hrl0 erl dR rs => ?_⟩
  have hR2 : RsAt H2 rl R := ⟨rvs, erl, dR⟩
  have hS2 := sql_same s2 hS1
  -- cells
  obtain ⟨m, hm1, hm14, em⟩ := mm ((((ns.map V.int).length : Nat) : Int) - 10)
  refine ⟨_, rfl, S, _, rfl, .inl hS2, _, _, rfl, rfl, _, _, rfl, _, _, rfl, (m : Int), by rw [← em], by omega, by omega, fun cl hcl => ?_⟩
  refine rd_lc (n := (m : Int).toNat) walk_range yfn_eq hcl (by rw [Int.toNat_natCast]; omega) (fun j y H' => ∃ z : Int, y = .int z ∧ True) (fun j y H1 H2 z q => q) (fun _ _ => True.intro) (fun j x H' C hj y s' k' => ?_) (fun H3 acc s3 hacc hl3 hf => ?_)
  · have ey : x = .int (j : Int) := by
      rw [y.2]
      show V.int (0 + (j : Int)) = _
      rw [Int.zero_add]
    subst ey
    exact ⟨_, rfl, _, rfl, _, _, rfl, rfl, _, _, rfl, S, ns, 10 + j, rfl, congrArg V.int (by omega), sql_same s' hS2, fun z => k' _ H' (Same.refl _) ⟨z, rfl, True.intro⟩⟩
  obtain ⟨cs, e1, e2, _⟩ := acc_of (f := V.int) hl3 hf
  subst e1
  rw [Int.toNat_natCast] at e2
  have hS3 := sql_same s3 hS2
  -- near
  refine ⟨_, rfl, _, rfl, _, rfl, _, rfl, _, _, rfl, S, ns, 1, rfl, rfl, hS3, fun z1 => ⟨_, _, rfl, rfl, ⟨by decide, by decide⟩, _, _, rfl, pl, pool, _, rfl, rfl, s3 _ _ (s2 _ _ epl), np.len, fun tl H4 ts s4 htl0 etl ht4 hts => ?_⟩⟩
  have s34 := s3.trans s4
  refine ⟨_, _, _, rfl, rl, cl, tl, R, cs, ts, rfl, rfl, rfl, rs_same hR2 s34, rs, s4 _ _ hacc, by omega, etl, ht4, fun r H5 dl kl ds kss s5 er5 hdocs hkids np5 hlen => ?_⟩
  refine ⟨r, _, rfl, SqT.of er5, rfl, _, _, rfl, _, _, rfl, rfl, ?_⟩
  have s25 := s34.trans s5
  -- sets
  refine ⟨_, rfl, _, rfl, _, rfl, _, _, _, rfl, rl, dl, kl, R, ds, kss, rfl, rfl, rfl, rs_same hR2 s25, rs, hdocs, hkids, np5, by omega, fun sl H6 s6 hsets => ?_⟩
  have s26 := s25.trans s6
  -- book
  obtain ⟨rvs', er6, erl6, erg6⟩ := rs_get (rs_same hR2 s26)
  have hR8 := rs.few
  refine ⟨_, rfl, rl, rfl, ⟨_, SqL.of er6⟩, fun D7 hD7 => ?_⟩
  refine rd_lc walk_list yat_eq hD7 (by omega) (fun j y H' => ∃ a, y = .ref a ∧ ∀ r, R[j]? = some r → RuleAt N H' r a) (fun j y H1 H2 z ⟨a, e, k⟩ => ⟨a, e, fun r h => (k r h).fz z⟩) (fun H' s' => SqL.of (s' _ _ er6)) (fun j x H' C hj y s' k' => ?_) (fun H7 acc s7 hacc7 hl7 hf7 => ?_)
  · have hjR : j < R.length := by omega
    obtain ⟨ra, rd, r1, r2, r3⟩ := erg6 j hjR
    have hx := y.2
    rw [r1] at hx
    have hx := Option.some.inj hx
    subst hx
    have pb := (rs.ok R[j] (List.getElem_mem hjR)).2.2
    have pz : sz R[j].2.2 ≤ 103 := pb.z
    have pd := pb.d
    have q2 := s' _ _ r2
    refine ⟨_, rfl, ra, _, _, _, rfl, rfl, SqT.of q2, at0, _, rfl, ra, _, _, _, rfl, rfl, SqT.of q2, at1, _, rfl, ra, _, _, _, rfl, rfl, SqT.of q2, at2, _, rfl, R[j].2.2, r3.fz (fz_same s'), ⟨pb.cn, by omega⟩, by omega, fun pa H8 s8 hp => ⟨(by show 3 ≤ sizeLine; decide), fun ta hta => ?_⟩⟩
    have s9 := same_new hta (.tup [.str R[j].1, .str R[j].2.1, .ref pa])
    refine k' _ _ (s8.trans s9) ⟨ta, rfl, fun r e => ?_⟩
    rw [List.getElem?_eq_getElem hjR] at e
    have e := Option.some.inj e
    subst e
    exact ⟨pa, upd_same, hp.fz (fz_same s9)⟩
  obtain ⟨bs, f1, f2, f3⟩ := acc_of (f := V.ref) hl7 hf7
  subst f1
  have hra7 : RulesAt N H7 R bs := ⟨by omega, fun i r a h1 h2 => f3 i a h2 r h1⟩
  refine ⟨R, rs.bookOk, _, rfl, D7, bs, rfl, hacc7, hra7, fun bt H9 s9 ebt => ?_⟩
  have hra9 := hra7.fz (fz_same s9)
  have s29 := s26.trans (s7.trans s9)
  have s59 := s6.trans (s7.trans s9)
  have s69 := s7.trans s9
  -- the machine
  refine ⟨fun σ H10 => (∃ u9, σ = [some (.ref S), some (.ref pl), some (.ref rl), some (.ref cl), some (.ref dl), some (.ref kl), some (.ref sl), some (.ref bt), some (.bl true), u9, none, none, none, none, none, none]) ∨ (∃ (mm : Addr) (SS : List AS) (ix : List Nat) (M : List (List Nat)) (ms : List Nat) (nms : List Str), σ = [some (.ref S), some (.ref pl), some (.ref rl), some (.ref cl), some (.ref dl), some (.ref kl), some (.ref sl), some (.ref bt), some (.bl false), some (.ref mm), none, none, none, none, none, none] ∧ Same H9 H10 ∧ MachAt R H10 mm SS ix M ms nms), ?_, ?_⟩
  · exact ⟨_, rfl, R, rs.rulesOk, _, rfl, ⟨bt, bs, rfl, ebt, hra9, fun mm H10 SS ix M ms nms s10 ma => .inr ⟨mm, SS, ix, M, ms, nms, rfl, s10, ma⟩⟩, fun H10 => ⟨true, T.many.2.2.2.2.2, fun _ a ha => .inl ⟨_, rfl⟩, fun z => nomatch z⟩⟩
  rintro σ H10 (⟨u9, rfl⟩ | ⟨mm, SS, ix, M, ms, nms, rfl, s10, ma⟩)
  · refine ⟨_, rfl, _, rfl, ?_⟩
    refine iteT ?_
    exact q H10
  refine ⟨_, rfl, _, rfl, ?_⟩
  refine iteF ?_
  have s510 := s59.trans s10
  have s610 := s69.trans s10
  obtain ⟨dvs, edl, hdv⟩ := hdocs.same s510
  have hkids10 := hkids.same s510
  obtain ⟨sas, esl, hsal, hsas⟩ := hsets.same s610
  obtain ⟨hdvl, hdvg⟩ := docDs_get hdv
  have hd0 : ds.length - 1 < ds.length := by omega
  have ed : ds[ds.length - 1]? = some ds[ds.length - 1] := List.getElem?_eq_getElem hd0
  have hdm := List.getElem_mem hd0
  have hds40 := np5.siz _ hdm
  have hdd40 := dep_siz ds[ds.length - 1]
  obtain ⟨dv, dv1, dv2⟩ := hdvg _ _ ed
  have ok := rs.rulesOk
  have nb := rs.noBlank
  -- spots, marks
  refine ⟨_, rfl, _, rfl, dl, _, rfl, .inl (SqL.of edl), _, _, rfl, rfl, (by show 0 ≤ sizeLine; decide), fun b hb => ?_⟩
  have sb := same_new hb (.tup [])
  refine ⟨_, _, _, rfl, kl, ds, kss, ds.length - 1, ds[ds.length - 1], b, [], rfl, congrArg V.int (by omega), rfl, hkids10.same sb, np5, ed, by omega, upd_same, by simp, fun spl H11 sps s11 hspl0 espl hord => ?_⟩
  have s1011 := sb.trans s11
  refine ⟨_, rfl, _, rfl, _, rfl, dl, _, _, _, rfl, rfl, SqL.of (s1011 _ _ edl), at_neg (by rw [hdvl]; exact dv1), R, ok, nb, _, _, rfl, mm, ds[ds.length - 1], SS, ix, M, ms, nms, rfl, ma.fz (fz_same s1011), dv2.fz (fz_same s1011), by omega, by omega, by decide, fun t H12 ys s12 et hents => ?_⟩
  have hl12 : ys.length = sps.length := by rw [hents.1, hord.1]
  have hspl40 : sps.length ≤ 40 := by rw [hord.1, ents_len]; exact hds40
  have s1012 := s1011.trans s12
  have espl12 := s12 _ _ espl
  refine ⟨_, rfl, _, _, rfl, .lst et, _, rfl, ?_⟩
  refine iteF ?_
  refine ⟨_, rfl, t, _, rfl, .inl (SqL.of et), _, rfl, spl, _, rfl, .inl (SqL.of espl12), rfl, _, rfl, ?_⟩
  rw [decide_eq_true (show V.int ((ys.length : Nat) : Int) = V.int ((sps.length : Nat) : Int) by rw [hl12])]
  refine iteF ?_
  have hord12 := hord.fz (fz_same s12)
  refine ⟨_, rfl, spl, _, rfl, .inl (SqL.of espl12), (sps.length : Int), rfl, by omega, by omega, for_range (n := (sps.length : Int).toNat) (fun i σ H' => ∃ (u12 u13 u14 : Option V), σ = [some (.ref S), some (.ref pl), some (.ref rl), some (.ref cl), some (.ref dl), some (.ref kl), some (.ref sl), some (.ref bt), some (.bl false), some (.ref mm), some (.ref spl), some (.ref t), u12, u13, u14, none] ∧ Same H12 H') ?_ ?_ ?_⟩
  · exact ⟨none, none, none, rfl, Same.refl _⟩
  · rintro i σ H13 hi ⟨u12, u13, u14, rfl, s13⟩
    rw [Int.toNat_natCast] at hi
    rw [Int.zero_add]
    have hie : i < (ents ds[ds.length - 1] []).length := by rw [← hord.1]; exact hi
    have ee := List.getElem?_eq_getElem hie
    generalize (ents ds[ds.length - 1] [])[i] = e at ee
    have esv := List.getElem?_eq_getElem hi
    have hiy : i < ys.length := by omega
    have eyv := List.getElem?_eq_getElem hiy
    obtain ⟨a1, b1, kk, ea1, ha1, hb1, hkk⟩ := hord12.2 i e _ ee esv
    obtain ⟨a2, b2, l2, ea2, ha2, hb2, hl2, _⟩ := hents.2 i e _ ee eyv
    have hkkl : kk < ds.length := (List.getElem?_eq_some_iff.mp hkk).1
    have hkka : kk < sas.length := by omega
    have hsa := hsas kk _ _ (List.getElem?_eq_getElem hkka) hkk
    have few := fo_few hR8 e.2
    have s1013 := s1012.trans s13
    obtain ⟨v2, v21, v22⟩ := hdvg _ _ hkk
    have hem := List.mem_of_getElem? hkk
    have hes := np5.siz _ hem
    have hed := dep_siz e.2
    refine ⟨_, rfl, _, rfl, spl, _, _, _, rfl, rfl, SqL.of (s13 _ _ espl12), atI_nat (j := i) (v := .ref a1) (by rw [esv, ea1]), a1, _, rfl, SqT.of (s13 _ _ ha1), rfl, _, _, rfl, _, _, rfl, rfl, ?_⟩
    refine ⟨_, rfl, _, rfl, t, _, _, _, rfl, rfl, SqL.of (s13 _ _ et), atI_nat (j := i) (v := .ref a2) (by rw [eyv, ea2]), _, rfl, _, rfl, _, rfl, sl, _, _, _, rfl, rfl, SqL.of (s1013 _ _ esl), atI_nat (j := kk) (v := .ref sas[kk]) (by rw [List.getElem?_map, List.getElem?_eq_getElem hkka]; rfl), _, _, _, rfl, a2, b2, b1, l2, sas[kk], e.1, fo R e.2, rfl, rfl, rfl, s13 _ _ ha2, s13 _ _ hb2, s13 _ _ hb1, s13 _ _ hl2, s1013 _ _ hsa, few, fun H14 s14 => ⟨_, rfl, ?_⟩⟩
    refine iteF ?_
    have s1014 := s1013.trans s14
    refine ⟨_, rfl, _, rfl, _, rfl, _, rfl, dl, _, _, _, rfl, rfl, SqL.of (s1014 _ _ edl), atI_nat v21, R, ok, nb, _, _, rfl, mm, e.2, SS, ix, M, ms, nms, rfl, ma.fz (fz_same s1014), v22.fz (fz_same s1014), by omega, fun n ⟨τ, t1, t2⟩ => ?_⟩
    have e7 := sem_forms ok (ma.good τ (List.mem_of_getElem? t1)) t2
    rw [← fo_eq] at e7
    refine ⟨R, _, _, rfl, mm, n, τ, SS, ix, M, ms, nms, rfl, rfl, ma.fz (fz_same s1014), t1, hR8, fun lf H15 s15 hlf0 elf => ?_⟩
    rw [e7] at elf
    have s1015 := s1014.trans s15
    refine ⟨_, rfl, _, rfl, sl, _, _, _, rfl, rfl, SqL.of (s1015 _ _ esl), atI_nat (j := kk) (v := .ref sas[kk]) (by rw [List.getElem?_map, List.getElem?_eq_getElem hkka]; rfl), _, _, rfl, lf, sas[kk], fo R e.2, rfl, rfl, elf, s1015 _ _ hsa, few, fun H16 s16 => ⟨_, rfl, ?_⟩⟩
    refine iteF ?_
    exact ⟨_, _, _, rfl, s13.trans (s14.trans (s15.trans s16))⟩
  · rintro σ H13 ⟨u12, u13, u14, rfl, s13⟩
    exact q H13
end
end KG
end
set_option Elab.async false
set_option linter.all false
set_option maxRecDepth 100000
set_option maxHeartbeats 0
namespace KG
open PySem PySem.Spec PyProof.Rows L2 KM
theorem facts {P : Program} {w : World} {K : PySem.W.Frag} {h : Heap} {mg : Str → Option Value} {f : Addr} (X : K.In h) (G : h.Ns mainGlobals mg) (hfa : mg ("law" : Str) = some (.ref f)) (c : He.SaysD fa fn K) (e : ex K = true) :
    ∃ fd : FuncData, (∀ (s : Shared) (v : Value), BindsTo s fd ⟨[v], []⟩ [("_law_script", v)]) ∧ ∀ base : Heap, K.In base → base.Ns mainGlobals mg → FnOk P w K mg base CX0 106 f fd ["_law_script"] (spLaw K) := by
  have T := tx_of X G c e
  obtain ⟨f', fd, F, m⟩ := T.d_law.ex
  have e2 := hfa.symm.trans m
  cases e2
  have b := FunD.bindsA (ps := ["_law_script"]) F fun _ _ _ _ _ _ us hl => match us, hl with | [_], _ => rfl
  exact ⟨fd, fun s v => b s [v] rfl, fun base _ _ => F.ok scLaw (fun vs H Q E h => (by obtain ⟨_, _, rfl, _⟩ := h; rfl)) fun cdv A outer s H vs Q E hr h => body0 (body_law T) f cdv A outer s H vs Q E hr h⟩
end KG
open PySem PySem.W PySem.Calls PyProof.Rows
theorem PySem.Challenge.cw_graftform_k37_whole_the_machine_s_word_holds : PySem.Challenge.rw_graftform_k37_whole_the_machine_s_word.Holds := by
  refine KG.holds_of ?_
  refine L2.walk_ofE (l := PySem.Challenge.rw_graftform_k37_whole_the_machine_s_word) (n := 63) (k := 106) (x := "_law_script") (CX := L2.CX0) rfl (by decide) (by kernel_rfl) ⟨rfl, by decide, by decide⟩ ?F (fun _ _ _ _ z => z)
  intro w mg fa h Y G hmg0
  obtain ⟨K, KX, c, e⟩ := Y
  have hmg : mg ("law" : PySem.Str) = some (.ref fa) := by
    have e : (HandSHeadRun.topDef (OpenLaw.row PySem.Challenge.rw_graftform_k37_whole_the_machine_s_word).prog 64).name = ("law" : PySem.Str) := by kernel_rfl
    rw [← e]
    exact hmg0
  obtain ⟨fd, hb, hF⟩ := KG.facts (P := (PySem.Challenge.rw_graftform_k37_whole_the_machine_s_word).prog) (w := w) KX G hmg c e
  exact ⟨K, fd, KG.spLaw K, KX, hb, fun H a ns hl _ hS => ⟨a, ns, rfl, hS, fun _ => rfl⟩, hF⟩
