import PyProof.Rows.All
import Wide.All
import OpenK.AllK
import Wide.FinOn
import HandS.Head0
import HandS.Head1
import HandS.Head2
import HandS.HeadEnd
import HandS.HeadNt
import HandS.HeadHook3
import HandS.ForMost
import HandS.Star
import KE.KDictKeyed
import HandS.Style
import KE.GoesNew
import HandS.Defaults
import HandS.ClsMeth
import HandS.TupAny
import HandS.IsInst
import HandS.RaiseMore
import HandS.SortInts
import HandS.SetFor
import HandS.Text
import HandS.Strs
import HandS.Zip
import KE.KDictDisplayH
import KE.KDictPairs
import KE.KDictCopyH
import HandS.DictComp
import HandS.SetKeys
import HandS.Conv
import KE.KEqDict
import HandS.TupSets
import PyProof.Rows.SortShellAny
import HandS.OwnEq
import HandS.TryOnly
import HandS.WordsExc
import HandS.Codes
import PySem.Challenge.RW_lineturns_k73_whole_waits_and_plays
set_option Elab.async false
set_option linter.all false
set_option maxRecDepth 100000
set_option maxHeartbeats 1600000
/-! KF0: the text by places. -/
namespace K3
open PySem PySem.Spec PyProof.Rows L2

def top (i : Nat) : Stmt := PySem.Challenge.pw_lineturns_k73_whole_waits_and_plays.main.body.getD i (.Pass ⟨0, 0, 0, 0⟩)

/-! ### what the module has written -/
/-- the value of the written dict PARTS at a key -/
def pa (K : PySem.W.Frag) (z : Str) : Addr := match PySem.W.nsIn K (He.ga K "PARTS") z with
  | some (some (.ref a)) => a
  | _ => 0
def strsOf : List Value → Option (List Str)
  | [] => some []
  | .str x _ :: vs => (strsOf vs).map (x :: ·)
  | _ => none
/-- a written tuple of texts -/
def kt (K : PySem.W.Frag) (a : Addr) : Option (List Str) := match K.lookup a with
  | some ⟨.type c, none, .seq its _, _⟩ => if c = "tuple" ∧ its.size ≤ sizeLine then strsOf its.toList else none
  | _ => none
end K3
set_option Elab.async false
set_option linter.all false
set_option maxRecDepth 100000
set_option maxHeartbeats 0
/-! KH: the head: what stands behind the top. -/
namespace K3
open PySem PySem.Spec PyProof.Rows L2

def defs1 : List He5.DefA := [
  ⟨fun K => He.ga K "some_of", "some_of", "some_of", defArgs (top 4), defBody (top 4), defScope (top 4), [], []⟩,
  ⟨fun K => He.ga K "region_parts", "region_parts", "region_parts", defArgs (top 5), defBody (top 5), defScope (top 5), [], []⟩,
  ⟨fun K => He.ga K "first_part", "first_part", "first_part", defArgs (top 6), defBody (top 6), defScope (top 6), [], []⟩,
  ⟨fun K => He.ga K "parts_granted", "parts_granted", "parts_granted", defArgs (top 7), defBody (top 7), defScope (top 7), [], []⟩,
  ⟨fun K => He.ga K "lots", "lots", "lots", defArgs (top 8), defBody (top 8), defScope (top 8), [], []⟩,
  ⟨fun K => He.ga K "step_led", "step_led", "step_led", defArgs (top 9), defBody (top 9), defScope (top 9), [], []⟩,
  ⟨fun K => He.ga K "vain_rounds", "vain_rounds", "vain_rounds", defArgs (top 10), defBody (top 10), defScope (top 10), [], []⟩,
  ⟨fun K => He.ga K "is_integer", "is_integer", "is_integer", defArgs (top 24), defBody (top 24), defScope (top 24), [], []⟩,
  ⟨fun K => He.ga K "is_word", "is_word", "is_word", defArgs (top 25), defBody (top 25), defScope (top 25), [], []⟩,
  ⟨fun K => He.ga K "is_name", "is_name", "is_name", defArgs (top 26), defBody (top 26), defScope (top 26), [], []⟩,
  ⟨fun K => He.ga K "is_sequence", "is_sequence", "is_sequence", defArgs (top 27), defBody (top 27), defScope (top 27), [], []⟩,
  ⟨fun K => He.ga K "region_of", "region_of", "region_of", defArgs (top 29), defBody (top 29), defScope (top 29), [], []⟩,
  ⟨fun K => He.ga K "granted_by", "granted_by", "granted_by", defArgs (top 30), defBody (top 30), defScope (top 30), [], []⟩,
  ⟨fun K => He.ga K "pointer_behind", "pointer_behind", "pointer_behind", defArgs (top 31), defBody (top 31), defScope (top 31), [], []⟩,
  ⟨fun K => He.ga K "round_done", "round_done", "round_done", defArgs (top 32), defBody (top 32), defScope (top 32), [], []⟩,
  ⟨fun K => He.ga K "is_round", "is_round", "is_round", defArgs (top 33), defBody (top 33), defScope (top 33), [], []⟩,
  ⟨fun K => He.ga K "ascending", "ascending", "ascending", defArgs (top 34), defBody (top 34), defScope (top 34), [], []⟩,
  ⟨fun K => He.ga K "good_rounds", "good_rounds", "good_rounds", defArgs (top 35), defBody (top 35), defScope (top 35), [], []⟩,
  ⟨fun K => He.ma K (He.ga K "Played") "__init__", "__init__", "Played.__init__", defArgs (inClass (top 36) 0), defBody (inClass (top 36) 0), defScope (inClass (top 36) 0), [], []⟩,
  ⟨fun K => He.ga K "faults_in", "faults_in", "faults_in", defArgs (top 37), defBody (top 37), defScope (top 37), [], []⟩,
  ⟨fun K => He.ga K "play", "play", "play", defArgs (top 38), defBody (top 38), defScope (top 38), [], []⟩,
  ⟨fun K => He.ga K "side_of", "side_of", "side_of", defArgs (top 40), defBody (top 40), defScope (top 40), [], []⟩,
  ⟨fun K => He.ga K "places", "places", "places", defArgs (top 41), defBody (top 41), defScope (top 41), [], []⟩,
  ⟨fun K => He.ma K (He.ga K "Beside") "__init__", "__init__", "Beside.__init__", defArgs (inClass (top 42) 0), defBody (inClass (top 42) 0), defScope (inClass (top 42) 0), [], []⟩,
  ⟨fun K => He.ma K (He.ga K "Beside") "rounds_told", "rounds_told", "Beside.rounds_told", defArgs (inClass (top 42) 1), defBody (inClass (top 42) 1), defScope (inClass (top 42) 1), [], []⟩,
  ⟨fun K => He.ma K (He.ga K "Beside") "choices", "choices", "Beside.choices", defArgs (inClass (top 42) 2), defBody (inClass (top 42) 2), defScope (inClass (top 42) 2), [], []⟩,
  ⟨fun K => He.ma K (He.ga K "Beside") "round_of", "round_of", "Beside.round_of", defArgs (inClass (top 42) 3), defBody (inClass (top 42) 3), defScope (inClass (top 42) 3), [], []⟩,
  ⟨fun K => He.ga K "ways_to", "ways_to", "ways_to", defArgs (top 43), defBody (top 43), defScope (top 43), [], []⟩,
  ⟨fun K => He.ma K (He.ga K "Wait") "__init__", "__init__", "Wait.__init__", defArgs (inClass (top 45) 0), defBody (inClass (top 45) 0), defScope (inClass (top 45) 0), [], []⟩,
  ⟨fun K => He.ma K (He.ga K "Wait") "fill", "fill", "Wait.fill", defArgs (inClass (top 45) 1), defBody (inClass (top 45) 1), defScope (inClass (top 45) 1), [], []⟩]
def defs2 : List He5.DefA := [
  ⟨fun K => He.ma K (He.ga K "Wait") "length", "length", "Wait.length", defArgs (inClass (top 45) 2), defBody (inClass (top 45) 2), defScope (inClass (top 45) 2), [], []⟩,
  ⟨fun K => He.ma K (He.ga K "Wait") "row", "row", "Wait.row", defArgs (inClass (top 45) 3), defBody (inClass (top 45) 3), defScope (inClass (top 45) 3), [], []⟩,
  ⟨fun K => He.ga K "longest", "longest", "longest", defArgs (top 46), defBody (top 46), defScope (top 46), [], []⟩,
  ⟨fun K => He.ga K "waits", "waits", "waits", defArgs (top 47), defBody (top 47), defScope (top 47), [], []⟩,
  ⟨fun K => He.ma K (He.ga K "Row") "__init__", "__init__", "Row.__init__", defArgs (inClass (top 50) 0), defBody (inClass (top 50) 0), defScope (inClass (top 50) 0), [.bl false], []⟩,
  ⟨fun K => He.ma K (He.ga K "Row") "__eq__", "__eq__", "Row.__eq__", defArgs (inClass (top 50) 1), defBody (inClass (top 50) 1), defScope (inClass (top 50) 1), [], []⟩,
  ⟨fun K => He.ga K "row_of", "row_of", "row_of", defArgs (top 51), defBody (top 51), defScope (top 51), [], []⟩,
  ⟨fun K => He.ga K "first_of", "first_of", "first_of", defArgs (top 53), defBody (top 53), defScope (top 53), [], []⟩,
  ⟨fun K => He.ma K (He.ga K "Rule") "__init__", "__init__", "Rule.__init__", defArgs (inClass (top 54) 0), defBody (inClass (top 54) 0), defScope (inClass (top 54) 0), [.adr (He.dflAt ("Rule", some "__init__") 0)], []⟩,
  ⟨fun K => He5.wf K (He.ga K "Rule") "classmethod" "read", "read", "Rule.read", defArgs (inClass (top 54) 1), defBody (inClass (top 54) 1), defScope (inClass (top 54) 1), [], []⟩,
  ⟨fun K => He.ma K (He.ga K "Rule") "__call__", "__call__", "Rule.__call__", defArgs (inClass (top 54) 5), defBody (inClass (top 54) 5), defScope (inClass (top 54) 5), [], []⟩,
  ⟨fun K => He.ga K "_law_seed", "_law_seed", "_law_seed", defArgs (top 56), defBody (top 56), defScope (top 56), [], []⟩,
  ⟨fun K => He.ga K "_law_choose", "_law_choose", "_law_choose", defArgs (top 57), defBody (top 57), defScope (top 57), [], []⟩,
  ⟨fun K => He.ga K "_law_one_of", "_law_one_of", "_law_one_of", defArgs (top 58), defBody (top 58), defScope (top 58), [], []⟩,
  ⟨fun K => He.ga K "_law_names", "_law_names", "_law_names", defArgs (top 59), defBody (top 59), defScope (top 59), [], []⟩,
  ⟨fun K => He.ga K "_law_any_row", "_law_any_row", "_law_any_row", defArgs (top 60), defBody (top 60), defScope (top 60), [], []⟩,
  ⟨fun K => He.ga K "_law_fair_rows", "_law_fair_rows", "_law_fair_rows", defArgs (top 61), defBody (top 61), defScope (top 61), [], []⟩,
  ⟨fun K => He.ga K "_law_rule", "_law_rule", "_law_rule", defArgs (top 62), defBody (top 62), defScope (top 62), [], []⟩,
  ⟨fun K => He.ga K "_law_row_text", "_law_row_text", "_law_row_text", defArgs (top 63), defBody (top 63), defScope (top 63), [], []⟩,
  ⟨fun K => He.ga K "_law_rule_text", "_law_rule_text", "_law_rule_text", defArgs (top 64), defBody (top 64), defScope (top 64), [], []⟩,
  ⟨fun K => He.ga K "_law_region", "_law_region", "_law_region", defArgs (top 65), defBody (top 65), defScope (top 65), [], []⟩,
  ⟨fun K => He.ga K "_law_round", "_law_round", "_law_round", defArgs (top 66), defBody (top 66), defScope (top 66), [], []⟩,
  ⟨fun K => He.ga K "_law_asking", "_law_asking", "_law_asking", defArgs (top 67), defBody (top 67), defScope (top 67), [], []⟩,
  ⟨fun K => He.ga K "_law_rounds", "_law_rounds", "_law_rounds", defArgs (top 68), defBody (top 68), defScope (top 68), [], []⟩,
  ⟨fun K => He.ga K "_law_lots", "_law_lots", "_law_lots", defArgs (top 69), defBody (top 69), defScope (top 69), [], []⟩,
  ⟨fun K => He.ga K "_law_nexts", "_law_nexts", "_law_nexts", defArgs (top 70), defBody (top 70), defScope (top 70), [], []⟩,
  ⟨fun K => He.ga K "_law_longest", "_law_longest", "_law_longest", defArgs (top 71), defBody (top 71), defScope (top 71), [], []⟩,
  ⟨fun K => He.ga K "_law_waited", "_law_waited", "_law_waited", defArgs (top 72), defBody (top 72), defScope (top 72), [], []⟩,
  ⟨fun K => He.ga K "_law_home", "_law_home", "_law_home", defArgs (top 74), defBody (top 74), defScope (top 74), [], []⟩,
  ⟨fun K => He.ga K "_law_most_in_vain", "_law_most_in_vain", "_law_most_in_vain", defArgs (top 75), defBody (top 75), defScope (top 75), [], []⟩,
  ⟨fun K => He.ga K "law", "law", "law", defArgs (top 76), defBody (top 76), defScope (top 76), [], []⟩]
def defsK : List He5.DefA := defs1 ++ defs2
def fa1 : List He.Fa := [.free "len", .free "isinstance", .free "int", .free "bool", .free "str", .free "list", .free "tuple", .free "set", .free "sorted", .free "all", .free "any", .free "range", .free "enumerate", .free "zip", .free "max", .free "min", .free "abs", .free "repr", .free "dict", .glo "some_of", .glo "region_parts", .glo "first_part", .glo "parts_granted", .glo "lots", .glo "step_led", .glo "vain_rounds", .glo "is_integer", .glo "is_word", .glo "is_name", .glo "is_sequence"]
def fa2 : List He.Fa := [.glo "region_of", .glo "granted_by", .glo "pointer_behind", .glo "round_done", .glo "is_round", .glo "ascending", .glo "good_rounds", .glo "faults_in", .glo "play", .glo "side_of", .glo "places", .glo "ways_to", .glo "longest", .glo "waits", .glo "row_of", .glo "first_of", .glo "_law_seed", .glo "_law_choose", .glo "_law_one_of", .glo "_law_names", .glo "_law_any_row", .glo "_law_fair_rows", .glo "_law_rule", .glo "_law_row_text", .glo "_law_rule_text", .glo "_law_region", .glo "_law_round", .glo "_law_asking", .glo "_law_rounds", .glo "_law_lots"]
def fa3 : List He.Fa := [.glo "_law_nexts", .glo "_law_longest", .glo "_law_waited", .glo "_law_home", .glo "_law_most_in_vain", .glo "law", .glo "Played", .glo "Beside", .glo "Wait", .glo "Row", .glo "Rule", .glo "InvalidRow", .glo "PICKS", .glo "MOVES", .glo "BARRED", .glo "PARTS", .str "ME" "w", .str "LETTERS" "abcdefghijklmnopqrstuvwxyz", .int "MOST_LETTERS" 4, .int "SHORT" 4, .cls "Played", .mkr "Played", .noat "Played" "grants", .noat "Played" "done", .noat "Played" "modes", .noat "Played" "pointers", .noat "Played" "faults", .cls "Beside", .mkr "Beside", .noat "Beside" "rule"]
def fa4 : List He.Fa := [.noat "Beside" "askers", .noat "Beside" "asker", .noat "Beside" "known", .cls "Wait", .mkr "Wait", .noat "Wait" "beside", .noat "Wait" "ways", .noat "Wait" "lengths", .cls "Row", .mkr "Row", .noat "Row" "mode", .noat "Row" "pick", .noat "Row" "move", .noat "Row" "then", .noat "Row" "also", .cls "Rule", .mkr "Rule", .noat "Rule" "first", .noat "Rule" "rows", .noat "Rule" "modes", .meth "Beside" "rounds_told", .meth "Beside" "choices", .meth "Beside" "round_of", .meth "Wait" "fill", .meth "Wait" "length", .meth "Wait" "row"]
def faK : List He.Fa := fa1 ++ (fa2 ++ (fa3 ++ fa4))
def loose1 : List Str := ["_wall", "ME", "PARTS", "some_of", "region_parts", "first_part", "parts_granted", "lots", "step_led", "vain_rounds", "LineError", "InvalidRow", "InvalidRule", "InvalidText", "InvalidRound", "NoRow", "PICKS", "MOVES", "BARRED", "LETTERS", "MOST_LETTERS", "is_integer"]
def loose2 : List Str := ["is_word", "is_name", "is_sequence", "region_of", "granted_by", "pointer_behind", "round_done", "is_round", "ascending", "good_rounds", "Played", "faults_in", "play", "side_of", "places", "Beside", "ways_to", "Wait", "longest", "waits", "SHORT", "Row"]
def loose3 : List Str := ["row_of", "first_of", "Rule", "_law_seed", "_law_choose", "_law_one_of", "_law_names", "_law_any_row", "_law_fair_rows", "_law_rule", "_law_row_text", "_law_rule_text", "_law_region", "_law_round", "_law_asking", "_law_rounds", "_law_lots", "_law_nexts", "_law_longest", "_law_waited", "_law_faults", "_law_home", "_law_most_in_vain"]
def ktB (K : PySem.W.Frag) (a : Addr) (ts : List Str) : Bool := decide (kt K a = some ts)
def partB (K : PySem.W.Frag) (z : Str) (ts : List Str) : Bool := decide (PySem.W.nsIn K (He.ga K "PARTS") z = some (some (.ref (pa K z)))) && ktB K (pa K z) ts
/-- what the walks want besides -/
def exB (K : PySem.W.Frag) : Bool :=
  (ktB K (He.ga K "PICKS") ["keep", "at", "past", "under", "all"] && (ktB K (He.ga K "MOVES") ["stay", "on", "home"] && ktB K (He.ga K "BARRED") ["also"])) &&
  ((partB K "home" ["under", "w", "past"] && partB K "low" ["under", "point", "between", "w", "past"]) && (partB K "here" ["under", "w", "past"] && partB K "high" ["under", "w", "between", "point", "past"])) &&
  ((He.eqO (PySem.W.findIn K (.ref (He.ga K "Row")) "__class__") (some (some (.builtin "object.__class__"))) && (He.eqO (PySem.W.specialIn K (.builtin "object.__class__") "__get__") (some (some (.builtin "getset_descriptor.__get__"))) && decide (PySem.W.takesIn K (.builtin "object.__class__") = some true))) &&
    (decide (PySem.W.mroIn K (He.ga K "Row") (.type "object") = some true) && (decide (PySem.W.kitOne K (.ref (He.ga K "Row")) (.ref (He.ga K "Row")) = some true) && (decide (PySem.W.kitOne K (.type "NoneType") (.ref (He.ga K "Row")) = some false) && PySem.W.notFirst K (He.ga K "Row") (.type "NoneType"))))) &&
  ((He.eqO (PySem.W.findIn K (.ref (He.ga K "Row")) "__eq__") (some (some (.ref (He.ma K (He.ga K "Row") "__eq__")))) && PySem.W.isFn K (.ref (He.ma K (He.ga K "Row") "__eq__"))) &&
    ((He.eqO (PySem.W.findIn K (.ref (He.ga K "Rule")) "__call__") (some (some (.ref (He.ma K (He.ga K "Rule") "__call__")))) && (PySem.W.isFn K (.ref (He.ma K (He.ga K "Rule") "__call__")) && PySem.W.fnIn K (He.ma K (He.ga K "Rule") "__call__"))) &&
    ((PySem.W.readsIn K (He.ga K "Rule") (.type "type") && He.eqO (PySem.W.specialIn K (.ref (He.ga K "Rule")) "__getattribute__") (some (some (.builtin "type.__getattribute__")))) && (He5.wrapB K (He.ga K "Rule") "classmethod" "classmethod.__get__" "read" && PySem.W.fnIn K (He5.wf K (He.ga K "Rule") "classmethod" "read")))))
abbrev AlX : Type := Bool × He.AlD × Option (List (Option (Str × Int)))
def keysP : List Str := ["home", "low", "here", "high"]
def obsX (K : PySem.W.Frag) : AlX := (exB K, He5.obsA faK defsK K, He.dicW K (He.ga K "PARTS"))
def valX (w : World) : AlX := (true, He5.valA defsK, some (He.keysIn w.params keysP))
/-- what is reached in one step more -/
def stepG (g : Addr → Option Obj) (seen fr : List Addr) : List Addr := ((fr.flatMap fun a => match g a with
  | some o => He.refsD o
  | none => []).filter fun a => !seen.contains a).eraseDups
def reachG (g : Addr → Option Obj) : Nat → List Addr → List Addr → List Addr
  | 0, seen, fr => seen ++ fr
  | n + 1, seen, fr => reachG g n (seen ++ fr) (stepG g (seen ++ fr) fr)
def obsXG (g : Addr → Option Obj) : AlX := obsX (He.frG g (reachG g 5 [] [mainGlobals] ++ [cStatics]))
def SaysX (w : World) (K : PySem.W.Frag) : Prop := obsX K = valX w
def hkX : PySem.W.Hook where
  α := AlX
  obs := fun s => obsXG s.heap.get?
  val := fun w => valX w
  says := fun w h => ∃ K : PySem.W.Frag, K.In h ∧ SaysX w K
  of := fun _ _ e => ⟨_, He.frG_in, e⟩
  keeps := fun _ _ _ ⟨K, hK, c⟩ k => ⟨K, PySem.W.Frag.In.keeps hK k, c⟩
theorem obsXG_eq {g : Addr → Option Obj} {s : Shared} (h : ∀ a, g a = s.heap.get? a) : obsXG g = hkX.obs s := by
  have e : g = s.heap.get? := funext h
  rw [e] <;> rfl
abbrev R : PySem.W.OpenRow := PySem.W.OpenLaw.row PySem.Challenge.rw_lineturns_k73_whole_waits_and_plays
def obX (s : PySem.W.SharedT) : AlX := obsXG (HandSHeadRun.getT s)
theorem obX_eq (s : PySem.W.SharedT) : obX s = hkX.obs s.abs := obsXG_eq (HandSHeadRun.getT_eq s)
theorem runF (w : World) : HandSHeadRun.RunEq R (PySem.W.view R.prog [76]) hkX obX 6000 (loose1 ++ (loose2 ++ loose3)) (w.withFollow "special-get-raises" false) := by
  intro os
  kernel_rfl
theorem runT (w : World) : HandSHeadRun.RunEq R (PySem.W.view R.prog [76]) hkX obX 6000 (loose1 ++ (loose2 ++ loose3)) (w.withFollow "special-get-raises" true) := by
  intro os
  kernel_rfl
theorem runX (w : World) : HandSHeadRun.RunEq R (PySem.W.view R.prog [76]) hkX obX 6000 (loose1 ++ (loose2 ++ loose3)) w := PySem.W.byRow2 "special-get-raises" (P := fun w => HandSHeadRun.RunEq R (PySem.W.view R.prog [76]) hkX obX 6000 (loose1 ++ (loose2 ++ loose3)) w) runF runT w
end K3
set_option Elab.async false
set_option linter.all false
set_option maxRecDepth 100000
set_option maxHeartbeats 4000000
/-! KA: the D layer. Data by value (D), mutable objects by address (MO in a store Mu), over the hand layer's readings. -/
namespace K3
open PySem PySem.Spec PyProof.Rows L2

/-- data: a scalar or a reference; a tuple; a list, a dict, an instance that nobody changes any more -/
inductive D where
  | v (x : V)
  | tup (xs : List D)
  | lst (xs : List D)
  | dct (kvs : List (List Leaf × D))
  | dks (kvs : List (Str × D))
  | ob (C : Addr) (L : List Str) (xs : List D)
/-- an object that may still change -/
inductive MO where
  | lst (xs : List D)
  | dct (kvs : List (List Leaf × D))
  | dks (kvs : List (Str × D))
  | ob (C : Addr) (L : List Str) (xs : List D)
abbrev Rho := List (Option D)
abbrev Mu := Addr → Option MO
def mup (μ : Mu) (a : Addr) (o : MO) : Mu := fun b => if b = a then some o else μ b
theorem mup_same {μ : Mu} {a : Addr} {o : MO} : mup μ a o a = some o := by unfold mup; rw [if_pos rfl]
theorem mup_ne {μ : Mu} {a b : Addr} {o : MO} (h : b ≠ a) : mup μ a o b = μ b := by unfold mup; rw [if_neg h]
theorem mup_mup {μ : Mu} {a : Addr} {o p : MO} : mup (mup μ a o) a p = mup μ a p := by
  funext b; unfold mup; split <;> rfl
abbrev dI (i : Int) : D := .v (.int i)
abbrev dS (x : Str) : D := .v (.str x)
abbrev dB (b : Bool) : D := .v (.bl b)
abbrev dN : D := .v .non
abbrev dR (a : Addr) : D := .v (.ref a)
def leafV : Leaf → V
  | .none => .non
  | .num i => .int i
  | .text x => .str x
def leafD (k : Leaf) : D := .v (leafV k)
/-- a key as data -/
def keyD (k : List Leaf) : D := .tup (k.map leafD)

structure Bd where
  P : Program
  w : World
  K : PySem.W.Frag
/-- a dict keyed by tuples, as the one object that it is -/
def dno (a : Addr) (es : Array DictEntry) (ep : Nat) : HO := .ext fun h => (a == sysModules) = false ∧ ∃ o, h.get? a = some o ∧ o.ExactDict ∧ o.data = .dict es ep
def DEs (B : Bd) (es : Array DictEntry) (xs : List (List Leaf × Addr × Value)) : Prop :=
  es.toList = xs.map (entryOfKey (tupleKind (leafKind B.P B.w))) ∧ (xs.map (·.1)).Nodup ∧ xs.length ≤ sizeLine

mutual
/-- the value v stands for the data d, told by the frozen heap F -/
inductive Rep (B : Bd) (F : Hp) : V → D → Prop
  | v (x : V) : Rep B F x (.v x)
  | tup {a : Addr} {vs : List V} {ds : List D} (h : SqT B.K F a vs) (r : Reps B F vs ds) : Rep B F (.ref a) (.tup ds)
  | lst {a : Addr} {vs : List V} {ds : List D} (h : SqL B.K F a vs) (r : Reps B F vs ds) : Rep B F (.ref a) (.lst ds)
  | dct {a : Addr} {es : Array DictEntry} {ep : Nat} {xs : List (List Leaf × Addr × Value)} {kvs : List (List Leaf × D)} (h : F a = some (dno a es ep)) (e : DEs B es xs) (r : Repk B F xs kvs) : Rep B F (.ref a) (.dct kvs)
  | dks {a : Addr} {ws : List (Key × V)} {kvs : List (Str × D)} (h : F a = some (.dK ws)) (r : Repn B F ws kvs) : Rep B F (.ref a) (.dks kvs)
  | ob {a C dx : Addr} {L : List Str} {vs : List V} {ds : List D} (h : F a = some (.ins C dx (L.zip vs))) (n : L.Nodup) (l : L.length = vs.length) (r : Reps B F vs ds) : Rep B F (.ref a) (.ob C L ds)
inductive Reps (B : Bd) (F : Hp) : List V → List D → Prop
  | nil : Reps B F [] []
  | cons {v : V} {d : D} {vs : List V} {ds : List D} (h : Rep B F v d) (t : Reps B F vs ds) : Reps B F (v :: vs) (d :: ds)
inductive Repk (B : Bd) (F : Hp) : List (List Leaf × Addr × Value) → List (List Leaf × D) → Prop
  | nil : Repk B F [] []
  | cons {k : List Leaf} {b : Addr} {u : Value} {v : V} {d : D} {xs : List (List Leaf × Addr × Value)} {kvs : List (List Leaf × D)} (q : SqT B.K F b (k.map leafV)) (r : RelV v u) (h : Rep B F v d) (t : Repk B F xs kvs) : Repk B F ((k, b, u) :: xs) ((k, d) :: kvs)
inductive Repn (B : Bd) (F : Hp) : List (Key × V) → List (Str × D) → Prop
  | nil : Repn B F [] []
  | cons {x : Str} {v : V} {d : D} {ws : List (Key × V)} {kvs : List (Str × D)} (h : Rep B F v d) (t : Repn B F ws kvs) : Repn B F ((.inr x, v) :: ws) ((x, d) :: kvs)
end

theorem rd_mono {F F' : Hp} (s : Same F F') {a : Addr} {u : HO} (h : Rd F a u) : Rd F' a u := by
  rcases h with h | ⟨o, h⟩
  · exact .inl (s _ _ h)
  · exact .inr ⟨o, s _ _ h⟩
theorem sqt_mono {K : PySem.W.Frag} {F F' : Hp} (s : Same F F') {a : Addr} {vs : List V} (h : SqT K F a vs) : SqT K F' a vs := by
  rcases h with h | h
  · exact .inl (rd_mono s h)
  · exact .inr h
theorem sql_mono {K : PySem.W.Frag} {F F' : Hp} (s : Same F F') {a : Addr} {vs : List V} (h : SqL K F a vs) : SqL K F' a vs := by
  rcases h with h | h
  · exact .inl (rd_mono s h)
  · exact .inr h
section
variable {B : Bd} {F F' : Hp}
mutual
theorem Rep.mono (s : Same F F') : ∀ {v : V} {d : D}, Rep B F v d → Rep B F' v d
  | _, _, .v x => .v x
  | _, _, .tup h r => .tup (sqt_mono s h) (Reps.mono s r)
  | _, _, .lst h r => .lst (sql_mono s h) (Reps.mono s r)
  | _, _, .dct h e r => .dct (s _ _ h) e (Repk.mono s r)
  | _, _, .dks h r => .dks (s _ _ h) (Repn.mono s r)
  | _, _, .ob h n l r => .ob (s _ _ h) n l (Reps.mono s r)
theorem Reps.mono (s : Same F F') : ∀ {vs : List V} {ds : List D}, Reps B F vs ds → Reps B F' vs ds
  | _, _, .nil => .nil
  | _, _, .cons h t => .cons (Rep.mono s h) (Reps.mono s t)
theorem Repk.mono (s : Same F F') : ∀ {xs : List (List Leaf × Addr × Value)} {kvs : List (List Leaf × D)}, Repk B F xs kvs → Repk B F' xs kvs
  | _, _, .nil => .nil
  | _, _, .cons q r h t => .cons (sqt_mono s q) r (Rep.mono s h) (Repk.mono s t)
theorem Repn.mono (s : Same F F') : ∀ {ws : List (Key × V)} {kvs : List (Str × D)}, Repn B F ws kvs → Repn B F' ws kvs
  | _, _, .nil => .nil
  | _, _, .cons h t => .cons (Rep.mono s h) (Repn.mono s t)
end
theorem Reps.length : ∀ {vs : List V} {ds : List D}, Reps B F vs ds → vs.length = ds.length
  | _, _, .nil => rfl
  | _, _, .cons _ t => by rw [List.length_cons, List.length_cons, Reps.length t]
theorem Reps.get : ∀ {vs : List V} {ds : List D} {i : Nat} {d : D}, Reps B F vs ds → ds[i]? = some d → ∃ v, vs[i]? = some v ∧ Rep B F v d
  | _, _, _, _, .nil, e => by simp at e
  | _, _, 0, _, .cons h _, e => by simp at e; subst e; exact ⟨_, rfl, h⟩
  | _, _, i + 1, d, .cons _ t, e => by
    obtain ⟨v, h1, h2⟩ := Reps.get (i := i) (d := d) t (by simpa using e)
    exact ⟨v, by simpa using h1, h2⟩
theorem Reps.getV : ∀ {vs : List V} {ds : List D} {i : Nat} {v : V}, Reps B F vs ds → vs[i]? = some v → ∃ d, ds[i]? = some d ∧ Rep B F v d
  | _, _, _, _, .nil, e => by simp at e
  | _, _, 0, _, .cons h _, e => by simp at e; subst e; exact ⟨_, rfl, h⟩
  | _, _, i + 1, d, .cons _ t, e => by
    obtain ⟨v, h1, h2⟩ := Reps.getV (i := i) t (by simpa using e)
    exact ⟨v, by simpa using h1, h2⟩
theorem Reps.append : ∀ {vs ws : List V} {ds es : List D}, Reps B F vs ds → Reps B F ws es → Reps B F (vs ++ ws) (ds ++ es)
  | _, _, _, _, .nil, s => s
  | _, _, _, _, .cons r t, s => .cons r (Reps.append t s)
theorem Reps.set {v : V} {d : D} (r : Rep B F v d) : ∀ {vs : List V} {ds : List D} (i : Nat), Reps B F vs ds → Reps B F (vs.set i v) (ds.set i d)
  | _, _, _, .nil => .nil
  | _, _, 0, .cons _ t => .cons r t
  | _, _, i + 1, .cons q t => .cons q (Reps.set r i t)
theorem Reps.take : ∀ {vs : List V} {ds : List D} (n : Nat), Reps B F vs ds → Reps B F (vs.take n) (ds.take n)
  | _, _, 0, _ => .nil
  | _, _, _ + 1, .nil => .nil
  | _, _, n + 1, .cons r t => .cons r (Reps.take n t)
theorem Reps.drop : ∀ {vs : List V} {ds : List D} (n : Nat), Reps B F vs ds → Reps B F (vs.drop n) (ds.drop n)
  | _, _, 0, r => r
  | _, _, _ + 1, .nil => .nil
  | _, _, n + 1, .cons _ t => Reps.drop n t
theorem Reps.eraseIdx : ∀ {vs : List V} {ds : List D} (n : Nat), Reps B F vs ds → Reps B F (vs.eraseIdx n) (ds.eraseIdx n)
  | _, _, _, .nil => .nil
  | _, _, 0, .cons _ t => t
  | _, _, n + 1, .cons r t => .cons r (Reps.eraseIdx n t)
theorem Reps.dropLast {vs : List V} {ds : List D} (r : Reps B F vs ds) : Reps B F vs.dropLast ds.dropLast := by
  rw [List.dropLast_eq_take, List.dropLast_eq_take, r.length]
  exact r.take _
/-- scalars stand for themselves -/
theorem Reps.scal : ∀ {vs : List V} {xs : List V}, Reps B F vs (xs.map D.v) → vs = xs
  | _, [], .nil => rfl
  | _, x :: xs, .cons h t => by
    cases h
    rw [Reps.scal t]
theorem Reps.of_scal : ∀ (xs : List V), Reps B F xs (xs.map D.v)
  | [] => .nil
  | x :: xs => .cons (.v x) (Reps.of_scal xs)
theorem Rep.inv_v {v x : V} (r : Rep B F v (.v x)) : v = x := by cases r; rfl
end

/-! ### the state -/
structure Zc where
  F : Hp
  H : Hp
  M : Addr → Prop
structure Slots (B : Bd) (F : Hp) (σ : L2.St) (ρ : Rho) : Prop where
  len : σ.length = ρ.length
  at_ : ∀ (i : Nat) (d : D), ρ[i]? = some (some d) → ∃ v, σ[i]? = some (some v) ∧ Rep B F v d
def RepM (B : Bd) (F H : Hp) (a : Addr) : MO → Prop
  | .lst ds => ∃ vs, H a = some (.lst vs) ∧ Reps B F vs ds
  | .dct kvs => ∃ es ep xs, H a = some (dno a es ep) ∧ DEs B es xs ∧ Repk B F xs kvs
  | .dks kvs => ∃ ws, H a = some (.dK ws) ∧ Repn B F ws kvs
  | .ob C L ds => ∃ dx vs, H a = some (.ins C dx (L.zip vs)) ∧ L.Nodup ∧ L.length = vs.length ∧ Reps B F vs ds
theorem RepM.mono {B : Bd} {F F' H H' : Hp} {a : Addr} {o : MO} (s : Same F F') (e : H' a = H a) (r : RepM B F H a o) : RepM B F' H' a o := by
  cases o with
  | lst ds => obtain ⟨vs, h, r⟩ := r; exact ⟨vs, e.trans h, r.mono s⟩
  | dct kvs => obtain ⟨es, ep, xs, h, e2, r⟩ := r; exact ⟨es, ep, xs, e.trans h, e2, r.mono s⟩
  | dks kvs => obtain ⟨ws, h, r⟩ := r; exact ⟨ws, e.trans h, r.mono s⟩
  | ob C L ds => obtain ⟨dx, vs, h, n, l, r⟩ := r; exact ⟨dx, vs, e.trans h, n, l, r.mono s⟩
theorem RepM.some {B : Bd} {F H : Hp} {a : Addr} {o : MO} (r : RepM B F H a o) : H a ≠ none := by
  cases o with
  | lst ds => obtain ⟨vs, h, _⟩ := r; rw [h]; exact fun z => nomatch z
  | dct kvs => obtain ⟨es, ep, xs, h, _⟩ := r; rw [h]; exact fun z => nomatch z
  | dks kvs => obtain ⟨ws, h, _⟩ := r; rw [h]; exact fun z => nomatch z
  | ob C L ds => obtain ⟨dx, vs, h, _⟩ := r; rw [h]; exact fun z => nomatch z
/-- F: what is frozen; H: the heap; Z: the entry of the def (its frozen part, its heap, what it may change) -/
structure WS (B : Bd) (Z : Zc) (F H : Hp) (σ : L2.St) (ρ : Rho) (μ : Mu) : Prop where
  sub : Same F H
  grow : Same Z.F F
  keep : ∀ a o, Z.H a = some o → ¬ Z.M a → H a = some o
  there : ∀ a, Z.H a ≠ none → H a ≠ none
  new : ∀ a, Z.F a = none → F a ≠ none → Z.H a = none
  slots : Slots B F σ ρ
  muts : ∀ a o, μ a = some o → F a = none ∧ (Z.H a = none ∨ Z.M a) ∧ RepM B F H a o
section
variable {B : Bd} {Z : Zc} {F H : Hp} {σ : L2.St} {ρ : Rho} {μ : Mu} {p : Addr} {o : HO}
theorem ne_none {α : Type} {x : Option α} (h : x ≠ none) : ∃ y, x = some y := by
  cases x with
  | none => exact absurd rfl h
  | some y => exact ⟨y, rfl⟩
theorem WS.fresh0 (w : WS B Z F H σ ρ μ) (h : H p = none) : Z.H p = none := by
  cases e : Z.H p with
  | none => rfl
  | some u => exact absurd h (w.there p (by rw [e]; exact fun z => nomatch z))
theorem WS.freshF (w : WS B Z F H σ ρ μ) (h : H p = none) : F p = none := w.sub.free h
theorem WS.freshM (w : WS B Z F H σ ρ μ) (h : H p = none) : μ p = none := by
  cases e : μ p with
  | none => rfl
  | some u => exact absurd h (w.muts p u e).2.2.some
theorem WS.mne (w : WS B Z F H σ ρ μ) {a : Addr} {m : MO} (h : H p = none) (e : μ a = some m) : a ≠ p := fun z => by
  have := w.freshM h
  rw [← z, e] at this
  cases this
theorem Slots.mono {F' : Hp} (s : Same F F') (h : Slots B F σ ρ) : Slots B F' σ ρ := ⟨h.len, fun i d e => let ⟨v, a, b⟩ := h.at_ i d e; ⟨v, a, b.mono s⟩⟩
theorem Slots.set {i : Nat} {v : V} {d : D} (h : Slots B F σ ρ) (r : Rep B F v d) : Slots B F (σ.set i (some v)) (ρ.set i (some d)) := by
  refine ⟨by rw [List.length_set, List.length_set, h.len], fun j d' e => ?_⟩
  by_cases hj : i = j
  · subst hj
    have hl : i < ρ.length := by
      have := (List.getElem?_eq_some_iff.mp e).1
      rwa [List.length_set] at this
    rw [List.getElem?_set_self hl] at e
    cases e
    exact ⟨v, by rw [List.getElem?_set_self (by rw [h.len]; exact hl)], r⟩
  · rw [List.getElem?_set_ne hj] at e ⊢
    exact h.at_ j d' e
theorem same_new {F : Hp} {p : Addr} {o : HO} (h : F p = none) : Same F (upd F p o) := fun b u e => by
  rw [upd_ne (ne_of_none e h)]
  exact e
/-- a new object that is frozen at once -/
theorem WS.newF (w : WS B Z F H σ ρ μ) (h : H p = none) : WS B Z (upd F p o) (upd H p o) σ ρ μ := by
  have hF := w.freshF h
  refine ⟨fun b u e => ?_, w.grow.trans (same_new hF), fun a u e m => ?_, fun a e => ?_, fun a e1 e2 => ?_, w.slots.mono (same_new hF), fun a u e => ?_⟩
  · by_cases q : b = p
    · subst q; rw [upd_same] at e ⊢; exact e
    · rw [upd_ne q] at e ⊢; exact w.sub b u e
  · have := w.keep a u e m
    rw [upd_ne (ne_of_none this h)]; exact this
  · by_cases q : a = p
    · subst q; rw [upd_same]; exact fun z => nomatch z
    · rw [upd_ne q]; exact w.there a e
  · by_cases q : a = p
    · subst q; exact w.fresh0 h
    · rw [upd_ne q] at e2; exact w.new a e1 e2
  · have ne := w.mne h e
    obtain ⟨m1, m2, m3⟩ := w.muts a u e
    exact ⟨by rw [upd_ne ne]; exact m1, m2, m3.mono (same_new hF) (upd_ne ne)⟩
/-- a new object that nobody speaks of -/
theorem WS.newG (w : WS B Z F H σ ρ μ) (h : H p = none) : WS B Z F (upd H p o) σ ρ μ := by
  refine ⟨fun b u e => ?_, w.grow, fun a u e m => ?_, fun a e => ?_, w.new, w.slots, fun a u e => ?_⟩
  · have := w.sub b u e
    rw [upd_ne (ne_of_none this h)]; exact this
  · have := w.keep a u e m
    rw [upd_ne (ne_of_none this h)]; exact this
  · by_cases q : a = p
    · subst q; rw [upd_same]; exact fun z => nomatch z
    · rw [upd_ne q]; exact w.there a e
  · obtain ⟨m1, m2, m3⟩ := w.muts a u e
    exact ⟨m1, m2, m3.mono (Same.refl F) (upd_ne (w.mne h e))⟩
/-- a new object that may change -/
theorem WS.newM {m : MO} (w : WS B Z F H σ ρ μ) (h : H p = none) (r : RepM B F (upd H p o) p m) : WS B Z F (upd H p o) σ ρ (mup μ p m) := by
  have g := w.newG (o := o) h
  refine ⟨g.sub, g.grow, g.keep, g.there, g.new, g.slots, fun a u e => ?_⟩
  by_cases q : a = p
  · subst q
    rw [mup_same] at e; cases e
    exact ⟨w.freshF h, .inl (w.fresh0 h), r⟩
  · rw [mup_ne q] at e
    exact g.muts a u e
/-- a change of an object -/
theorem WS.mut {m m' : MO} (w : WS B Z F H σ ρ μ) (h : μ p = some m) (r : RepM B F (upd H p o) p m') : WS B Z F (upd H p o) σ ρ (mup μ p m') := by
  obtain ⟨f0, z0, r0⟩ := w.muts p m h
  refine ⟨fun b u e => ?_, w.grow, fun a u e mm => ?_, fun a e => ?_, w.new, w.slots, fun a u e => ?_⟩
  · have : b ≠ p := fun q => by rw [q, f0] at e; cases e
    rw [upd_ne this]; exact w.sub b u e
  · have : a ≠ p := fun q => by
      subst q
      rcases z0 with z | z
      · rw [z] at e; cases e
      · exact mm z
    rw [upd_ne this]; exact w.keep a u e mm
  · by_cases q : a = p
    · subst q; rw [upd_same]; exact fun z => nomatch z
    · rw [upd_ne q]; exact w.there a e
  · by_cases q : a = p
    · subst q
      rw [mup_same] at e; cases e
      exact ⟨f0, z0, r⟩
    · rw [mup_ne q] at e
      obtain ⟨m1, m2, m3⟩ := w.muts a u e
      exact ⟨m1, m2, m3.mono (Same.refl F) (upd_ne q)⟩
theorem WS.set {i : Nat} {v : V} {d : D} (w : WS B Z F H σ ρ μ) (r : Rep B F v d) : WS B Z F H (σ.set i (some v)) (ρ.set i (some d)) μ := ⟨w.sub, w.grow, w.keep, w.there, w.new, w.slots.set r, w.muts⟩
/-- a store that tells less -/
theorem WS.less {μ' : Mu} (w : WS B Z F H σ ρ μ) (h : ∀ a o, μ' a = some o → μ a = some o) : WS B Z F H σ ρ μ' := ⟨w.sub, w.grow, w.keep, w.there, w.new, w.slots, fun a o e => w.muts a o (h a o e)⟩
/-- what an object is, as frozen data -/
def MO.frz : MO → D
  | .lst ds => .lst ds
  | .dct kvs => .dct kvs
  | .dks kvs => .dks kvs
  | .ob C L ds => .ob C L ds
def mdel (μ : Mu) (a : Addr) : Mu := fun b => if b = a then none else μ b
theorem mdel_same {μ : Mu} {a : Addr} : mdel μ a a = none := by unfold mdel; rw [if_pos rfl]
theorem mdel_ne {μ : Mu} {a b : Addr} (h : b ≠ a) : mdel μ a b = μ b := by unfold mdel; rw [if_neg h]
theorem mdel_mup {μ : Mu} {a : Addr} {o : MO} (h : μ a = none) : mdel (mup μ a o) a = μ := by
  funext b
  by_cases q : b = a
  · subst q; rw [mdel_same, h]
  · rw [mdel_ne q, mup_ne q]
theorem WS.loc {m : MO} (w : WS B Z F H σ ρ μ) (h : μ p = some m) (hz : ¬ Z.M p) : Z.H p = none := (w.muts p m h).2.1.resolve_right hz
/-- from here on it is not changed any more -/
theorem WS.freeze {m : MO} (w : WS B Z F H σ ρ μ) (h : μ p = some m) (z1 : Z.H p = none) : ∃ F', Same F F' ∧ WS B Z F' H σ ρ (mdel μ p) ∧ Rep B F' (.ref p) m.frz := by
  obtain ⟨f0, z0, r0⟩ := w.muts p m h
  obtain ⟨u, hu⟩ := ne_none r0.some
  have s : Same F (upd F p u) := same_new f0
  refine ⟨upd F p u, s, ⟨fun b x e => ?_, w.grow.trans s, w.keep, w.there, fun a e1 e2 => ?_, w.slots.mono s, fun a x e => ?_⟩, ?_⟩
  · by_cases q : b = p
    · subst q; rw [upd_same] at e; rw [hu]; exact e
    · rw [upd_ne q] at e; exact w.sub b x e
  · by_cases q : a = p
    · subst q; exact z1
    · rw [upd_ne q] at e2; exact w.new a e1 e2
  · by_cases q : a = p
    · subst q; rw [mdel_same] at e; cases e
    · rw [mdel_ne q] at e
      obtain ⟨m1, m2, m3⟩ := w.muts a x e
      exact ⟨by rw [upd_ne q]; exact m1, m2, m3.mono s rfl⟩
  · cases m with
    | lst ds => obtain ⟨vs, e, r⟩ := r0; rw [hu] at e; cases e; exact .lst (SqL.of upd_same) (r.mono s)
    | dct kvs => obtain ⟨es, ep, xs, e, e2, r⟩ := r0; rw [hu] at e; cases e; exact .dct upd_same e2 (r.mono s)
    | dks kvs => obtain ⟨ws, e, r⟩ := r0; rw [hu] at e; cases e; exact .dks upd_same (r.mono s)
    | ob C L ds => obtain ⟨dx, vs, e, n, l, r⟩ := r0; rw [hu] at e; cases e; exact .ob upd_same n l (r.mono s)
end
end K3
set_option Elab.async false
set_option linter.all false
set_option maxRecDepth 100000
set_option maxHeartbeats 4000000
/-! KB: readings over data, each an L2 reading (c..); names, constants, operators, tests, statements. -/
namespace K3
open PySem PySem.Spec PyProof.Rows L2

abbrev DK := D → Mu → Prop
abbrev DE := Rho → Mu → DK → Prop
abbrev DT := Rho → Mu → (Bool → Mu → Prop) → Prop
abbrev DA := Rho → Mu → (List D → Mu → Prop) → Prop
structure DEnds where
  m0 : Mu
  nx : Rho → Mu → Prop
  rt : DK
  bk : Rho → Mu → Prop := fun _ _ => False
  ct : Rho → Mu → Prop := fun _ _ => False
abbrev DS := DEnds → Rho → Mu → Prop
abbrev DG := D → Rho → Mu → (Rho → Mu → Prop) → Prop

section
variable (B : Bd)
/-- what follows a value -/
def Kt (Z : Zc) (σ : L2.St) (ρ : Rho) (F : Hp) (Φ : DK) (Q : VK) : Prop :=
  ∀ v d μ' F' H', Same F F' → WS B Z F' H' σ ρ μ' → Rep B F' v d → Φ d μ' → Q v H'
def KtB (Z : Zc) (σ : L2.St) (ρ : Rho) (F : Hp) (Φ : Bool → Mu → Prop) (Q : Bool → Hp → Prop) : Prop :=
  ∀ b μ' F' H', Same F F' → WS B Z F' H' σ ρ μ' → Φ b μ' → Q b H'
def KtA (Z : Zc) (σ : L2.St) (ρ : Rho) (F : Hp) (Φ : List D → Mu → Prop) (Q : List V → Hp → Prop) : Prop :=
  ∀ vs ds μ' F' H', Same F F' → WS B Z F' H' σ ρ μ' → Reps B F' vs ds → Φ ds μ' → Q vs H'
def KtS (Z : Zc) (F : Hp) (Φ : Rho → Mu → Prop) (Q : L2.St → Hp → Prop) : Prop :=
  ∀ σ' ρ' μ' F' H', Same F F' → WS B Z F' H' σ' ρ' μ' → Φ ρ' μ' → Q σ' H'
def KtR (Z : Zc) (F : Hp) (Φ : DK) (Q : VK) : Prop :=
  ∀ v d σ' ρ' μ' F' H', Same F F' → WS B Z F' H' σ' ρ' μ' → Rep B F' v d → Φ d μ' → Q v H'
def cE (de : DE) : TE := fun σ H Q => ∃ Z F ρ μ Φ, WS B Z F H σ ρ μ ∧ de ρ μ Φ ∧ Kt B Z σ ρ F Φ Q
def cT (dt : DT) : TT := fun σ H Q => ∃ Z F ρ μ Φ, WS B Z F H σ ρ μ ∧ dt ρ μ Φ ∧ KtB B Z σ ρ F Φ Q
def cA (da : DA) : TA := fun σ H Q => ∃ Z F ρ μ Φ, WS B Z F H σ ρ μ ∧ da ρ μ Φ ∧ KtA B Z σ ρ F Φ Q
structure KtD (Z : Zc) (F : Hp) (Dn : DEnds) (E : Ends) : Prop where
  loc : ∀ a, Z.M a → Dn.m0 a ≠ none
  nx : KtS B Z F Dn.nx E.nx
  rt : KtR B Z F Dn.rt E.rt
  bk : KtS B Z F Dn.bk E.bk
  ct : KtS B Z F Dn.ct E.ct
def cS (ds : DS) : TS := fun E σ H => ∃ Z F ρ μ Dn, WS B Z F H σ ρ μ ∧ ds Dn ρ μ ∧ KtD B Z F Dn E
def cG (dg : DG) : TG := fun v σ H Q => ∃ Z F ρ μ d Φ, WS B Z F H σ ρ μ ∧ Rep B F v d ∧ dg d ρ μ Φ ∧ KtS B Z F Φ Q
end
section
variable {B : Bd} {Z : Zc} {σ : L2.St} {ρ : Rho} {F F' : Hp}
theorem Kt.mono {Φ : DK} {Q : VK} (s : Same F F') (k : Kt B Z σ ρ F Φ Q) : Kt B Z σ ρ F' Φ Q := fun v d μ' G H' s2 => k v d μ' G H' (s.trans s2)
theorem KtB.mono {Φ : Bool → Mu → Prop} {Q : Bool → Hp → Prop} (s : Same F F') (k : KtB B Z σ ρ F Φ Q) : KtB B Z σ ρ F' Φ Q := fun b μ' G H' s2 => k b μ' G H' (s.trans s2)
theorem KtA.mono {Φ : List D → Mu → Prop} {Q : List V → Hp → Prop} (s : Same F F') (k : KtA B Z σ ρ F Φ Q) : KtA B Z σ ρ F' Φ Q := fun v d μ' G H' s2 => k v d μ' G H' (s.trans s2)
theorem KtS.mono {Φ : Rho → Mu → Prop} {Q : L2.St → Hp → Prop} (s : Same F F') (k : KtS B Z F Φ Q) : KtS B Z F' Φ Q := fun a b c G H' s2 => k a b c G H' (s.trans s2)
theorem KtR.mono {Φ : DK} {Q : VK} (s : Same F F') (k : KtR B Z F Φ Q) : KtR B Z F' Φ Q := fun v d a b c G H' s2 => k v d a b c G H' (s.trans s2)
theorem KtD.mono {Dn : DEnds} {E : Ends} (s : Same F F') (k : KtD B Z F Dn E) : KtD B Z F' Dn E := ⟨k.loc, k.nx.mono s, k.rt.mono s, k.bk.mono s, k.ct.mono s⟩
end
abbrev Bof (X : Cx) : Bd := ⟨X.prog, X.w, X.K⟩
abbrev QE (X : Cx) (e : Expr) (de : DE) : Prop := PE X e (cE (Bof X) de)
abbrev QT (X : Cx) (e : Expr) (dt : DT) : Prop := PT X e (cT (Bof X) dt)
abbrev QW (X : Cx) (e : Expr) (dt : DT) : Prop := PW X e (cT (Bof X) dt)
abbrev QA (X : Cx) (es : List Expr) (da : DA) : Prop := PA X es (cA (Bof X) da)
abbrev QS (X : Cx) (st : Stmt) (ds : DS) : Prop := PS X st (cS (Bof X) ds)
abbrev QSs (X : Cx) (sts : List Stmt) (ds : DS) : Prop := PSs X sts (cS (Bof X) ds)
abbrev QG (X : Cx) (t : Expr) (dg : DG) : Prop := PG X t (cG (Bof X) dg)

section
variable {X : Cx} {e : Expr}
theorem pe_imp {t u : TE} (h : PE X e t) (k : ∀ σ H Q, u σ H Q → t σ H Q) : PE X e u := ⟨fun pins s σ H Q I hw => h.run pins s σ H Q I (k _ _ _ hw)⟩
theorem pt_imp {t u : TT} (h : PT X e t) (k : ∀ σ H Q, u σ H Q → t σ H Q) : PT X e u := ⟨fun pins s σ H Q I hw => h.run pins s σ H Q I (k _ _ _ hw)⟩
theorem pw_imp {t u : TT} (h : PW X e t) (k : ∀ σ H Q, u σ H Q → t σ H Q) : PW X e u := ⟨fun wh pins s σ H Q I hw => h.run wh pins s σ H Q I (k _ _ _ hw)⟩
theorem pa_imp {es : List Expr} {t u : TA} (h : PA X es t) (k : ∀ σ H Q, u σ H Q → t σ H Q) : PA X es u := ⟨fun pos pins s σ H Q I hw => h.run pos pins s σ H Q I (k _ _ _ hw)⟩
theorem ps_imp {st : Stmt} {t u : TS} (h : PS X st t) (k : ∀ D σ H, u D σ H → t D σ H) : PS X st u := ⟨fun pins s σ H D I hw => h.run pins s σ H D I (k _ _ _ hw)⟩
theorem pss_imp {st : List Stmt} {t u : TS} (h : PSs X st t) (k : ∀ D σ H, u D σ H → t D σ H) : PSs X st u := ⟨fun pins s σ H D I hw => h.run pins s σ H D I (k _ _ _ hw)⟩
theorem pg_imp {t u : TG} (h : PG X e t) (k : ∀ v σ H Q, u v σ H Q → t v σ H Q) : PG X e u := ⟨fun pins s σ H v uu Q I r hw => h.run pins s σ H v uu Q I r (k _ _ _ _ hw)⟩

/-! ### names, constants -/
def dVar (i : Nat) : DE := fun ρ μ Φ => match ρ[i]? with | some (some d) => Φ d μ | _ => False
def dC (d : D) : DE := fun _ μ Φ => Φ d μ
theorem q_var (i : Nat) {x : Str} {pos : Pos} (hN : X.N[i]? = some x := by rfl) (hv : Vis X.env.scope x := by first | exact Or.inl rfl | exact Or.inr (Or.inl rfl) | exact Or.inr (Or.inr rfl)) (hd : (x == ("__debug__" : Str)) = false := by decide)
    (hcd : (x == ("__classdict__" : Str)) = false := by decide) : QE X (.Name x pos) (dVar i) := by
  refine pe_imp (pe_var hN hv hd hcd) ?_
  rintro σ H Q ⟨Z, F, ρ, μ, Φ, w, h, k⟩
  unfold dVar at h
  split at h
  · rename_i d e
    obtain ⟨v, e1, r⟩ := w.slots.at_ i d e
    exact ⟨v, e1, k v d μ F H (Same.refl F) w r h⟩
  · exact h.elim
theorem q_const {v : V} (h : PE X e (tC v)) : QE X e (dC (.v v)) := by
  refine pe_imp h ?_
  rintro σ H Q ⟨Z, F, ρ, μ, Φ, w, h, k⟩
  exact k v (.v v) μ F H (Same.refl F) w (.v v) h
theorem q_int {i j pos} : QE X (.Constant (.int i) j pos) (dC (dI i)) := q_const pe_int
theorem q_bl {b j pos} : QE X (.Constant (.bool b) j pos) (dC (dB b)) := q_const pe_bl
theorem q_non {j pos} : QE X (.Constant .none j pos) (dC dN) := q_const pe_non
theorem q_str {x j pos} : QE X (.Constant (.str x) j pos) (dC (dS x)) := q_const pe_str
theorem q_glob {x : Str} {v : V} {u : Value} {pos : Pos} (hg : Gl X x) (hm : X.mg x = some u) (r : RelV v u) (hd : (x == ("__debug__" : Str)) = false := by decide) : QE X (.Name x pos) (dC (.v v)) := q_const (pe_glob hg hm r hd)
/-- a tuple of scalars that the module has written -/
theorem q_globT {x : Str} {a : Addr} {vs : List V} {pos : Pos} (hg : Gl X x) (hm : X.mg x = some (.ref a)) (ht : ∀ H, SqT X.K H a vs) (hd : (x == ("__debug__" : Str)) = false := by decide) : QE X (.Name x pos) (dC (.tup (vs.map D.v))) := by
  refine pe_imp (pe_glob (v := .ref a) hg hm rfl hd) ?_
  rintro σ H Q ⟨Z, F, ρ, μ, Φ, w, h, k⟩
  exact k (.ref a) _ μ F H (Same.refl F) w (.tup (ht F) (Reps.of_scal vs)) h

/-! ### operators, by values -/
abbrev DR2 := D → D → Mu → DK → Prop
def SimR2 (B : Bd) (r : R2) (dr : DR2) : Prop := ∀ (Z : Zc) (F H : Hp) (σ : L2.St) (ρ : Rho) (μ : Mu) (Φ : DK) (x y : V) (dx dy : D) (Q : VK),
  WS B Z F H σ ρ μ → Rep B F x dx → Rep B F y dy → dr dx dy μ Φ → Kt B Z σ ρ F Φ Q → r x y H Q
abbrev DR1 := D → Mu → DK → Prop
def SimR1 (B : Bd) (r : V → Hp → VK → Prop) (dr : DR1) : Prop := ∀ (Z : Zc) (F H : Hp) (σ : L2.St) (ρ : Rho) (μ : Mu) (Φ : DK) (x : V) (dx : D) (Q : VK),
  WS B Z F H σ ρ μ → Rep B F x dx → dr dx μ Φ → Kt B Z σ ρ F Φ Q → r x H Q
abbrev DRL := List D → Mu → DK → Prop
def SimRL (B : Bd) (r : List V → Hp → VK → Prop) (dr : DRL) : Prop := ∀ (Z : Zc) (F H : Hp) (σ : L2.St) (ρ : Rho) (μ : Mu) (Φ : DK) (xs : List V) (ds : List D) (Q : VK),
  WS B Z F H σ ρ μ → Reps B F xs ds → dr ds μ Φ → Kt B Z σ ρ F Φ Q → r xs H Q
def dOp (dr : DR2) (da db : DE) : DE := fun ρ μ Φ => da ρ μ fun x μ1 => db ρ μ1 fun y μ2 => dr x y μ2 Φ
def dUn (dr : DR1) (da : DE) : DE := fun ρ μ Φ => da ρ μ fun x μ1 => dr x μ1 Φ
theorem sim_op {B : Bd} {r : R2} {dr : DR2} {da db : DE} (s : SimR2 B r dr) : ∀ σ H Q, cE B (dOp dr da db) σ H Q → tOp r (cE B da) (cE B db) σ H Q := by
  rintro σ H Q ⟨Z, F, ρ, μ, Φ, w, h, k⟩
  refine ⟨Z, F, ρ, μ, _, w, h, fun v d μ1 F1 H1 s1 w1 r1 h1 => ?_⟩
  refine ⟨Z, F1, ρ, μ1, _, w1, h1, fun v2 d2 μ2 F2 H2 s2 w2 r2 h2 => ?_⟩
  exact s Z F2 H2 σ ρ μ2 Φ v v2 d d2 Q w2 (r1.mono s2) r2 h2 (k.mono (s1.trans s2))
theorem sim_un {B : Bd} {r : V → Hp → VK → Prop} {dr : DR1} {da : DE} (s : SimR1 B r dr) : ∀ σ H Q, cE B (dUn dr da) σ H Q → tUn r (cE B da) σ H Q := by
  rintro σ H Q ⟨Z, F, ρ, μ, Φ, w, h, k⟩
  refine ⟨Z, F, ρ, μ, _, w, h, fun v d μ1 F1 H1 s1 w1 r1 h1 => ?_⟩
  exact s Z F1 H1 σ ρ μ1 Φ v d Q w1 r1 h1 (k.mono s1)
variable {a b c : Expr} {da db dc : DE} {pos : Pos} {dr dr' : DR2} {r r' : R2}
theorem q_op {op : Operator} (ho : OpR X (binaryOp op) r) (s : SimR2 (Bof X) r dr) (ha : QE X a da) (hb : QE X b db) : QE X (.BinOp a op b pos) (dOp dr da db) := pe_imp (pe_op ho ha hb) (sim_op s)
theorem q_un {op : UnaryOp} {r : V → Hp → VK → Prop} {dr : DR1} (ho : UnR X (unaryOp op) r) (s : SimR1 (Bof X) r dr) (ha : QE X a da) : QE X (.UnaryOp op a pos) (dUn dr da) := pe_imp (pe_un ho ha) (sim_un s)
theorem q_cmp {op : CmpOp} (ho : OpR X (compareOp op) r) (s : SimR2 (Bof X) r dr) (ha : QE X a da) (hb : QE X b db) (hm : behindInMarks op b = false) : QE X (.Compare a [op] [b] pos) (dOp dr da db) := pe_imp (pe_cmpR ho ha hb hm) (sim_op s)
/-- ints in, a value out -/
def drI (g : Int → Int → V) : DR2 := fun x y μ Φ => match x, y with | .v (.int i), .v (.int j) => Φ (.v (g i j)) μ | _, _ => False
def drIc (C : Int → Int → Prop) (g : Int → Int → V) : DR2 := fun x y μ Φ => match x, y with | .v (.int i), .v (.int j) => C i j ∧ Φ (.v (g i j)) μ | _, _ => False
theorem sim_I0 {B : Bd} {g : Int → Int → V} : SimR2 B (rI0 g) (drI g) := by
  intro Z F H σ ρ μ Φ x y dx dy Q w rx ry h k
  unfold drI at h
  split at h
  · cases rx; cases ry
    exact ⟨_, _, rfl, rfl, k _ _ μ F H (Same.refl F) w (.v _) h⟩
  · exact h.elim
theorem sim_I {B : Bd} {C : Int → Int → Prop} {g : Int → Int → V} : SimR2 B (rI C g) (drIc C g) := by
  intro Z F H σ ρ μ Φ x y dx dy Q w rx ry h k
  unfold drIc at h
  split at h
  · cases rx; cases ry
    exact ⟨_, _, rfl, rfl, h.1, k _ _ μ F H (Same.refl F) w (.v _) h.2⟩
  · exact h.elim
abbrev drAdd : DR2 := drI fun i j => .int (i + j)
abbrev drSub : DR2 := drI fun i j => .int (i - j)
abbrev drLt : DR2 := drI fun i j => .bl (decide (i < j))
abbrev drLe : DR2 := drI fun i j => .bl (decide (i ≤ j))
abbrev drGt : DR2 := drI fun i j => .bl (decide (j < i))
abbrev drGe : DR2 := drI fun i j => .bl (decide (j ≤ i))
/-- == of scalars -/
def drEq : DR2 := fun x y μ Φ => match x, y with | .v a, .v b => scal a b = true ∧ Φ (dB (decide (a = b))) μ | _, _ => False
def drNe : DR2 := fun x y μ Φ => match x, y with | .v a, .v b => scal a b = true ∧ Φ (dB (!decide (a = b))) μ | _, _ => False
theorem sim_eq {B : Bd} : SimR2 B rEq drEq := by
  intro Z F H σ ρ μ Φ x y dx dy Q w rx ry h k
  unfold drEq at h
  split at h
  · cases rx; cases ry
    exact ⟨h.1, k _ _ μ F H (Same.refl F) w (.v _) h.2⟩
  · exact h.elim
theorem sim_ne {B : Bd} : SimR2 B rNe drNe := by
  intro Z F H σ ρ μ Φ x y dx dy Q w rx ry h k
  unfold drNe at h
  split at h
  · cases rx; cases ry
    exact ⟨h.1, k _ _ μ F H (Same.refl F) w (.v _) h.2⟩
  · exact h.elim
theorem q_add (ha : QE X a da) (hb : QE X b db) : QE X (.BinOp a .Add b pos) (dOp drAdd da db) := q_op op_add sim_I0 ha hb
theorem q_sub (ha : QE X a da) (hb : QE X b db) : QE X (.BinOp a .Sub b pos) (dOp drSub da db) := q_op op_sub sim_I0 ha hb
theorem q_mul (ha : QE X a da) (hb : QE X b db) : QE X (.BinOp a .Mult b pos) (dOp (drIc CMul fun i j => .int (i * j)) da db) := q_op op_mul sim_I ha hb
theorem q_mod (ha : QE X a da) (hb : QE X b db) : QE X (.BinOp a .Mod b pos) (dOp (drIc (fun _ j => 0 < j) fun i j => .int (i % j)) da db) := q_op op_mod sim_I ha hb
theorem q_fdiv (ha : QE X a da) (hb : QE X b db) : QE X (.BinOp a .FloorDiv b pos) (dOp (drIc CDiv fun i j => .int (i / j)) da db) := q_op op_fdiv sim_I ha hb
theorem q_pow (ha : QE X a da) (hb : QE X b db) : QE X (.BinOp a .Pow b pos) (dOp (drIc CPow fun i j => .int (i ^ j.toNat)) da db) := q_op op_pow sim_I ha hb
theorem q_lt (ha : QE X a da) (hb : QE X b db) : QE X (.Compare a [.Lt] [b] pos) (dOp drLt da db) := q_cmp op_lt sim_I0 ha hb (nomark _)
theorem q_le (ha : QE X a da) (hb : QE X b db) : QE X (.Compare a [.LtE] [b] pos) (dOp drLe da db) := q_cmp op_le sim_I0 ha hb (nomark _)
theorem q_gt (ha : QE X a da) (hb : QE X b db) : QE X (.Compare a [.Gt] [b] pos) (dOp drGt da db) := q_cmp op_gt sim_I0 ha hb (nomark _)
theorem q_ge (ha : QE X a da) (hb : QE X b db) : QE X (.Compare a [.GtE] [b] pos) (dOp drGe da db) := q_cmp op_ge sim_I0 ha hb (nomark _)
theorem q_eq (ha : QE X a da) (hb : QE X b db) : QE X (.Compare a [.Eq] [b] pos) (dOp drEq da db) := q_cmp op_eq sim_eq ha hb (nomark _)
theorem q_ne (ha : QE X a da) (hb : QE X b db) : QE X (.Compare a [.NotEq] [b] pos) (dOp drNe da db) := q_cmp op_ne sim_ne ha hb (nomark _)
/-- is None -/
def dIsN (da : DE) : DE := fun ρ μ Φ => da ρ μ fun x μ1 => match x with | .v y => Φ (dB (decide (y = .non))) μ1 | _ => Φ (dB false) μ1
def dNotN (da : DE) : DE := fun ρ μ Φ => da ρ μ fun x μ1 => match x with | .v y => Φ (dB (!decide (y = .non))) μ1 | _ => Φ (dB true) μ1
theorem Rep.ref {B : Bd} {F : Hp} {v : V} {d : D} (r : Rep B F v d) (h : ∀ x, d ≠ .v x) : ∃ a, v = .ref a := by
  cases r with
  | v _ => exact absurd rfl (h _)
  | tup _ _ => exact ⟨_, rfl⟩
  | lst _ _ => exact ⟨_, rfl⟩
  | dct _ _ _ => exact ⟨_, rfl⟩
  | dks _ _ => exact ⟨_, rfl⟩
  | ob _ _ _ _ => exact ⟨_, rfl⟩
theorem q_isN {j pos'} (ha : QE X a da) : QE X (.Compare a [.Is] [.Constant .none j pos'] pos) (dIsN da) := by
  refine pe_imp (pe_cmp (pc_isN ha)) ?_
  rintro σ H Q ⟨Z, F, ρ, μ, Φ, w, h, k⟩
  refine ⟨Z, F, ρ, μ, _, w, h, fun v d μ1 F1 H1 s1 w1 r1 h1 => ?_⟩
  refine (k.mono s1) _ (dB (decide (v = .non))) μ1 F1 H1 (Same.refl F1) w1 (.v _) ?_
  split at h1
  · cases r1; exact h1
  · rename_i hn
    obtain ⟨a, rfl⟩ := r1.ref hn
    exact h1
theorem q_notN {j pos'} (ha : QE X a da) : QE X (.Compare a [.IsNot] [.Constant .none j pos'] pos) (dNotN da) := by
  refine pe_imp (pe_cmp (pc_notN ha)) ?_
  rintro σ H Q ⟨Z, F, ρ, μ, Φ, w, h, k⟩
  refine ⟨Z, F, ρ, μ, _, w, h, fun v d μ1 F1 H1 s1 w1 r1 h1 => ?_⟩
  refine (k.mono s1) _ (dB (!decide (v = .non))) μ1 F1 H1 (Same.refl F1) w1 (.v _) ?_
  split at h1
  · cases r1; exact h1
  · rename_i hn
    obtain ⟨a, rfl⟩ := r1.ref hn
    exact h1

/-! ### tests -/
def dTest (de : DE) : DT := fun ρ μ Φ => de ρ μ fun x μ1 => match x with | .v (.bl b) => Φ b μ1 | _ => False
theorem sim_test {B : Bd} {de : DE} : ∀ σ H Q, cT B (dTest de) σ H Q → tTest (cE B de) σ H Q := by
  rintro σ H Q ⟨Z, F, ρ, μ, Φ, w, h, k⟩
  refine ⟨Z, F, ρ, μ, _, w, h, fun v d μ1 F1 H1 s1 w1 r1 h1 => ?_⟩
  split at h1
  · rename_i b
    cases r1
    exact ⟨b, rfl, k b μ1 F1 H1 s1 w1 h1⟩
  · exact h1.elim
/-- a value that is a bool, as a test -/
theorem t_val {de : DE} (h : QE X e de) (he : ∀ whole, isTrue e X.env whole = (do let v ← whole; standAt e.pos; holding [v] (truthy v)) := by intro _; rfl) : QT X e (dTest de) := pt_imp (pt_val h he) sim_test
theorem t_cmp {op : CmpOp} (ho : OpR X (compareOp op) r) (s : SimR2 (Bof X) r dr) (ha : QE X a da) (hb : QE X b db) (hm : behindInMarks op b = false) : QT X (.Compare a [op] [b] pos) (dTest (dOp dr da db)) := by
  refine pt_imp (pt_cmpR ho ha hb hm) fun σ H Q h => ?_
  obtain ⟨Z, F, ρ, μ, Φ, w, h, k⟩ := sim_test (de := dOp dr da db) σ H Q h
  exact sim_op s σ H _ ⟨Z, F, ρ, μ, Φ, w, h, k⟩
theorem t_lt (ha : QE X a da) (hb : QE X b db) : QT X (.Compare a [.Lt] [b] pos) (dTest (dOp drLt da db)) := t_cmp op_lt sim_I0 ha hb (nomark _)
theorem t_le (ha : QE X a da) (hb : QE X b db) : QT X (.Compare a [.LtE] [b] pos) (dTest (dOp drLe da db)) := t_cmp op_le sim_I0 ha hb (nomark _)
theorem t_gt (ha : QE X a da) (hb : QE X b db) : QT X (.Compare a [.Gt] [b] pos) (dTest (dOp drGt da db)) := t_cmp op_gt sim_I0 ha hb (nomark _)
theorem t_ge (ha : QE X a da) (hb : QE X b db) : QT X (.Compare a [.GtE] [b] pos) (dTest (dOp drGe da db)) := t_cmp op_ge sim_I0 ha hb (nomark _)
theorem t_eq (ha : QE X a da) (hb : QE X b db) : QT X (.Compare a [.Eq] [b] pos) (dTest (dOp drEq da db)) := t_cmp op_eq sim_eq ha hb (nomark _)
theorem t_ne (ha : QE X a da) (hb : QE X b db) : QT X (.Compare a [.NotEq] [b] pos) (dTest (dOp drNe da db)) := t_cmp op_ne sim_ne ha hb (nomark _)
theorem t_isN {j pos'} (ha : QE X a da) : QT X (.Compare a [.Is] [.Constant .none j pos'] pos) (dTest (dIsN da)) := by
  refine pt_imp (pt_cmp (pc_isN ha)) ?_
  rintro σ H Q ⟨Z, F, ρ, μ, Φ, w, h, k⟩
  refine ⟨Z, F, ρ, μ, _, w, h, fun v d μ1 F1 H1 s1 w1 r1 h1 => ?_⟩
  refine ⟨_, rfl, k (decide (v = .non)) μ1 F1 H1 s1 w1 ?_⟩
  split at h1
  · cases r1; exact h1
  · rename_i hn
    obtain ⟨a, rfl⟩ := r1.ref hn
    exact h1
theorem t_notN {j pos'} (ha : QE X a da) : QT X (.Compare a [.IsNot] [.Constant .none j pos'] pos) (dTest (dNotN da)) := by
  refine pt_imp (pt_cmp (pc_notN ha)) ?_
  rintro σ H Q ⟨Z, F, ρ, μ, Φ, w, h, k⟩
  refine ⟨Z, F, ρ, μ, _, w, h, fun v d μ1 F1 H1 s1 w1 r1 h1 => ?_⟩
  refine ⟨_, rfl, k (!decide (v = .non)) μ1 F1 H1 s1 w1 ?_⟩
  split at h1
  · cases r1; exact h1
  · rename_i hn
    obtain ⟨a, rfl⟩ := r1.ref hn
    exact h1
def dAnd (t u : DT) : DT := fun ρ μ Φ => t ρ μ fun c μ1 => (c = true → u ρ μ1 Φ) ∧ (c = false → Φ false μ1)
def dOr (t u : DT) : DT := fun ρ μ Φ => t ρ μ fun c μ1 => (c = true → Φ true μ1) ∧ (c = false → u ρ μ1 Φ)
def dNot (t : DT) : DT := fun ρ μ Φ => t ρ μ fun c μ1 => Φ (!c) μ1
variable {t u : DT} {rest : List Expr}
theorem w_and1 (ha : QT X a t) : QW X (.BoolOp .And [a] pos) t := pw_and1 ha
theorem w_or1 (ha : QT X a t) : QW X (.BoolOp .Or [a] pos) t := pw_or1 ha
theorem w_and (ha : QT X a t) (hb : QW X (.BoolOp .And (b :: rest) pos) u) : QW X (.BoolOp .And (a :: b :: rest) pos) (dAnd t u) := by
  refine pw_imp (pw_and ha hb) ?_
  rintro σ H Q ⟨Z, F, ρ, μ, Φ, w, h, k⟩
  refine ⟨Z, F, ρ, μ, _, w, h, fun c μ1 F1 H1 s1 w1 h1 => ?_⟩
  cases c with
  | true => exact ⟨Z, F1, ρ, μ1, Φ, w1, h1.1 rfl, k.mono s1⟩
  | false => exact k false μ1 F1 H1 s1 w1 (h1.2 rfl)
theorem w_or (ha : QT X a t) (hb : QW X (.BoolOp .Or (b :: rest) pos) u) : QW X (.BoolOp .Or (a :: b :: rest) pos) (dOr t u) := by
  refine pw_imp (pw_or ha hb) ?_
  rintro σ H Q ⟨Z, F, ρ, μ, Φ, w, h, k⟩
  refine ⟨Z, F, ρ, μ, _, w, h, fun c μ1 F1 H1 s1 w1 h1 => ?_⟩
  cases c with
  | true => exact k true μ1 F1 H1 s1 w1 (h1.1 rfl)
  | false => exact ⟨Z, F1, ρ, μ1, Φ, w1, h1.2 rfl, k.mono s1⟩
theorem t_w (h : QW X e t) : QT X e t := h.pt
theorem t_not (ha : QT X a t) : QT X (.UnaryOp .Not a pos) (dNot t) := by
  refine pt_imp (pt_not ha) ?_
  rintro σ H Q ⟨Z, F, ρ, μ, Φ, w, h, k⟩
  exact ⟨Z, F, ρ, μ, _, w, h, fun c μ1 F1 H1 s1 w1 h1 => k (!c) μ1 F1 H1 s1 w1 h1⟩
/-- and, or, not as values (bools) -/
def dAndV (da db : DE) : DE := fun ρ μ Φ => da ρ μ fun x μ1 => match x with | .v (.bl c) => (c = true → db ρ μ1 Φ) ∧ (c = false → Φ (dB false) μ1) | _ => False
def dOrV (da db : DE) : DE := fun ρ μ Φ => da ρ μ fun x μ1 => match x with | .v (.bl c) => (c = true → Φ (dB true) μ1) ∧ (c = false → db ρ μ1 Φ) | _ => False
def dNotV (da : DE) : DE := fun ρ μ Φ => da ρ μ fun x μ1 => match x with | .v (.bl c) => Φ (dB (!c)) μ1 | _ => False
theorem q_one {op} {de : DE} (h : QE X a de) : QE X (.BoolOp op [a] pos) de := pe_one h
theorem q_and (ha : QE X a da) (hb : QE X (.BoolOp .And (b :: rest) pos) db) : QE X (.BoolOp .And (a :: b :: rest) pos) (dAndV da db) := by
  refine pe_imp (pe_and ha hb) ?_
  rintro σ H Q ⟨Z, F, ρ, μ, Φ, w, h, k⟩
  refine ⟨Z, F, ρ, μ, _, w, h, fun v d μ1 F1 H1 s1 w1 r1 h1 => ?_⟩
  split at h1
  · rename_i c
    cases r1
    refine ⟨c, rfl, ?_⟩
    cases c with
    | true => exact ⟨Z, F1, ρ, μ1, Φ, w1, h1.1 rfl, k.mono s1⟩
    | false => exact k _ _ μ1 F1 H1 s1 w1 (.v _) (h1.2 rfl)
  · exact h1.elim
theorem q_or (ha : QE X a da) (hb : QE X (.BoolOp .Or (b :: rest) pos) db) : QE X (.BoolOp .Or (a :: b :: rest) pos) (dOrV da db) := by
  refine pe_imp (pe_or ha hb) ?_
  rintro σ H Q ⟨Z, F, ρ, μ, Φ, w, h, k⟩
  refine ⟨Z, F, ρ, μ, _, w, h, fun v d μ1 F1 H1 s1 w1 r1 h1 => ?_⟩
  split at h1
  · rename_i c
    cases r1
    refine ⟨c, rfl, ?_⟩
    cases c with
    | true => exact k _ _ μ1 F1 H1 s1 w1 (.v _) (h1.1 rfl)
    | false => exact ⟨Z, F1, ρ, μ1, Φ, w1, h1.2 rfl, k.mono s1⟩
  · exact h1.elim
theorem q_not (ha : QE X a da) : QE X (.UnaryOp .Not a pos) (dNotV da) := by
  refine pe_imp (pe_not ha) ?_
  rintro σ H Q ⟨Z, F, ρ, μ, Φ, w, h, k⟩
  refine ⟨Z, F, ρ, μ, _, w, h, fun v d μ1 F1 H1 s1 w1 r1 h1 => ?_⟩
  split at h1
  · rename_i c
    cases r1
    exact ⟨c, rfl, k _ _ μ1 F1 H1 s1 w1 (.v _) h1⟩
  · exact h1.elim
def dIf (t : DT) (da db : DE) : DE := fun ρ μ Φ => t ρ μ fun c μ1 => (c = true → da ρ μ1 Φ) ∧ (c = false → db ρ μ1 Φ)
theorem q_if (hc : QT X c t) (ha : QE X a da) (hb : QE X b db) : QE X (.IfExp c a b pos) (dIf t da db) := by
  refine pe_imp (pe_ifExp hc ha hb) ?_
  rintro σ H Q ⟨Z, F, ρ, μ, Φ, w, h, k⟩
  refine ⟨Z, F, ρ, μ, _, w, h, fun c μ1 F1 H1 s1 w1 h1 => ?_⟩
  cases c with
  | true => exact ⟨Z, F1, ρ, μ1, Φ, w1, h1.1 rfl, k.mono s1⟩
  | false => exact ⟨Z, F1, ρ, μ1, Φ, w1, h1.2 rfl, k.mono s1⟩
/-- a op1 b op2 c, of ints -/
def dChain (dr dr' : DR2) (da db dc : DE) : DE := fun ρ μ Φ => da ρ μ fun x μ1 => db ρ μ1 fun y μ2 => dr x y μ2 fun z μ3 => match z with | .v (.bl c) => (c = true → dc ρ μ3 fun w μ4 => dr' y w μ4 Φ) ∧ (c = false → Φ (dB false) μ3) | _ => False
theorem sim_chain {B : Bd} (s : SimR2 B r dr) (s' : SimR2 B r' dr') : ∀ σ H Q, cE B (dChain dr dr' da db dc) σ H Q → tChain r r' (cE B da) (cE B db) (cE B dc) σ H Q := by
  rintro σ H Q ⟨Z, F, ρ, μ, Φ, w, h, k⟩
  refine ⟨Z, F, ρ, μ, _, w, h, fun v d μ1 F1 H1 s1 w1 r1 h1 => ?_⟩
  refine ⟨Z, F1, ρ, μ1, _, w1, h1, fun v2 d2 μ2 F2 H2 s2 w2 r2 h2 => ?_⟩
  refine s Z F2 H2 σ ρ μ2 _ v v2 d d2 _ w2 (r1.mono s2) r2 h2 fun v3 d3 μ3 F3 H3 s3 w3 r3 h3 => ?_
  split at h3
  · rename_i c
    cases r3
    refine ⟨c, rfl, ?_⟩
    cases c with
    | false => exact k _ _ μ3 F3 H3 (s1.trans (s2.trans s3)) w3 (.v _) (h3.2 rfl)
    | true =>
      refine ⟨Z, F3, ρ, μ3, _, w3, h3.1 rfl, fun v4 d4 μ4 F4 H4 s4 w4 r4 h4 => ?_⟩
      exact s' Z F4 H4 σ ρ μ4 Φ v2 v4 d2 d4 Q w4 (r2.mono (s3.trans s4)) r4 h4 (k.mono (s1.trans (s2.trans (s3.trans s4))))
  · exact h3.elim
theorem q_chain {op op' : CmpOp} (ho : OpR X (compareOp op) r) (ho' : OpR X (compareOp op') r') (s : SimR2 (Bof X) r dr) (s' : SimR2 (Bof X) r' dr') (ha : QE X a da) (hb : QE X b db) (hc : QE X c dc)
    (hm : lastMarks [op, op'] [b, c] = false := by with_unfolding_all rfl) : QE X (.Compare a [op, op'] [b, c] pos) (dChain dr dr' da db dc) := pe_imp (pe_chain ho ho' ha hb hc hm) (sim_chain s s')
theorem t_chain {op op' : CmpOp} (ho : OpR X (compareOp op) r) (ho' : OpR X (compareOp op') r') (s : SimR2 (Bof X) r dr) (s' : SimR2 (Bof X) r' dr') (ha : QE X a da) (hb : QE X b db) (hc : QE X c dc)
    (hm : lastMarks [op, op'] [b, c] = false := by with_unfolding_all rfl) : QT X (.Compare a [op, op'] [b, c] pos) (dTest (dChain dr dr' da db dc)) :=
  pt_imp (pt_chain ho ho' ha hb hc hm) fun σ H Q h => sim_chain s s' σ H _ (sim_test σ H Q h)
end
end K3
set_option Elab.async false
set_option linter.all false
set_option maxRecDepth 100000
set_option maxHeartbeats 4000000
/-! KC: argument lists, displays, statements, targets, calls of defs, what a def promises. -/
namespace K3
open PySem PySem.Spec PyProof.Rows L2

/-! ### one state upon another -/
def dom (μ : Mu) : Addr → Prop := fun a => μ a ≠ none
section
variable {B : Bd} {Z : Zc} {F F' H H' : Hp} {σ σ' : L2.St} {ρ ρ' : Rho} {μ μ' : Mu}
theorem WS.reslot (w : WS B Z F H σ ρ μ) (s : Slots B F σ' ρ') : WS B Z F H σ' ρ' μ := ⟨w.sub, w.grow, w.keep, w.there, w.new, s, w.muts⟩
theorem Slots.nil : Slots B F [] [] := ⟨rfl, fun i d e => by simp at e⟩
theorem WS.rebase (w : WS B Z F H σ ρ μ) : WS B ⟨F, H, dom μ⟩ F H σ ρ μ :=
  ⟨w.sub, Same.refl F, fun _ _ e _ => e, fun _ e => e, fun _ e1 e2 => absurd e1 e2, w.slots, fun a o e => ⟨(w.muts a o e).1, .inr (show μ a ≠ none by rw [e]; exact fun z => nomatch z), (w.muts a o e).2.2⟩⟩
theorem WS.comp {ρ0 : Rho} {σ0 : L2.St} (w : WS B Z F H σ0 ρ0 μ) (w' : WS B ⟨F, H, dom μ⟩ F' H' σ' ρ' μ') : WS B Z F' H' σ' ρ' μ' where
  sub := w'.sub
  grow := w.grow.trans w'.grow
  keep := fun a o e m => by
    refine w'.keep a o (w.keep a o e m) fun hm => ?_
    obtain ⟨x, hx⟩ := ne_none hm
    rcases (w.muts a x hx).2.1 with z | z
    · rw [z] at e; cases e
    · exact m z
  there := fun a e => w'.there a (w.there a e)
  new := fun a e1 e2 => by
    by_cases q : F a = none
    · exact w.fresh0 (w'.new a q e2)
    · exact w.new a e1 q
  slots := w'.slots
  muts := fun a o e => by
    obtain ⟨m1, m2, m3⟩ := w'.muts a o e
    refine ⟨m1, ?_, m3⟩
    rcases m2 with z | z
    · exact .inl (w.fresh0 z)
    · obtain ⟨x, hx⟩ := ne_none z
      exact (w.muts a x hx).2.1
/-- what is not told is kept -/
theorem WS.frame {a : Addr} {o : HO} (w' : WS B ⟨F, H, dom μ⟩ F' H' σ' ρ' μ') (h : H a = some o) (hm : μ a = none) (hF : F a = none) : H' a = some o ∧ F' a = none ∧ μ' a = none := by
  refine ⟨w'.keep a o h fun z => z hm, ?_, ?_⟩
  · cases e : F' a with
    | none => rfl
    | some u =>
      have z : H a = none := w'.new a hF (by rw [e]; exact fun z => nomatch z)
      rw [h] at z; cases z
  · cases e : μ' a with
    | none => rfl
    | some u =>
      rcases (w'.muts a u e).2.1 with z | z
      · have z : H a = none := z
        rw [h] at z; cases z
      · exact absurd hm z
end

/-! ### sequences that are read -/
def rdSeq (d : D) (μ : Mu) (Ψ : List D → Prop) : Prop := match d with
  | .tup ds => Ψ ds
  | .lst ds => Ψ ds
  | .v (.ref a) => ∃ ds, μ a = some (.lst ds) ∧ Ψ ds
  | _ => False
theorem rdSeq_ok {B : Bd} {Z : Zc} {F H : Hp} {σ : L2.St} {ρ : Rho} {μ : Mu} {v : V} {d : D} {Ψ : List D → Prop} (w : WS B Z F H σ ρ μ) (r : Rep B F v d) (h : rdSeq d μ Ψ) :
    ∃ a vs ds, v = .ref a ∧ (SqL B.K H a vs ∨ SqT B.K H a vs) ∧ Reps B F vs ds ∧ Ψ ds := by
  unfold rdSeq at h
  split at h
  · cases r with
    | tup q t => exact ⟨_, _, _, rfl, .inr (sqt_mono w.sub q), t, h⟩
  · cases r with
    | lst q t => exact ⟨_, _, _, rfl, .inl (sql_mono w.sub q), t, h⟩
  · cases r
    obtain ⟨ds, e, h⟩ := h
    obtain ⟨_, _, vs, hv, t⟩ := w.muts _ _ e
    exact ⟨_, vs, ds, rfl, .inl (SqL.of hv), t, h⟩
  · exact h.elim
def lenOk (n : Nat) (P : Prop) : Prop := match Nat.ble n 100000 with | true => P | false => False
theorem lenOk.mk {n : Nat} {P : Prop} (h : n ≤ 100000) (p : P) : lenOk n P := by
  unfold lenOk
  rw [Nat.ble_eq_true_of_le h]
  exact p
theorem lenOk.elim {n : Nat} {P : Prop} (h : lenOk n P) : n ≤ sizeLine ∧ n < sizeLine ∧ P := by
  unfold lenOk at h
  split at h
  · rename_i e
    have := Nat.le_of_ble_eq_true e
    have z : (100000 : Nat) < sizeLine := by decide
    exact ⟨by omega, by omega, h⟩
  · exact h.elim

/-! ### argument lists, displays -/
def dNil : DA := fun _ μ Φ => Φ [] μ
def dCons (de : DE) (da : DA) : DA := fun ρ μ Φ => de ρ μ fun x μ1 => da ρ μ1 fun xs μ2 => Φ (x :: xs) μ2
def dStar (de : DE) (da : DA) : DA := fun ρ μ Φ => de ρ μ fun x μ1 => rdSeq x μ1 fun xs => da ρ μ1 fun ys μ2 => Φ (xs ++ ys) μ2
def dTup (da : DA) : DE := fun ρ μ Φ => da ρ μ fun xs μ1 => lenOk xs.length (Φ (.tup xs) μ1)
def dLst (da : DA) : DE := fun ρ μ Φ => da ρ μ fun xs μ1 => lenOk xs.length (Φ (.lst xs) μ1)
def dLstM (da : DA) : DE := fun ρ μ Φ => da ρ μ fun xs μ1 => lenOk xs.length (∀ p, μ1 p = none → Φ (dR p) (mup μ1 p (.lst xs)))
section
variable {X : Cx} {e : Expr} {es : List Expr} {de : DE} {da : DA} {pos : Pos}
theorem a_nil : QA X [] dNil := by
  refine pa_imp pa_nil ?_
  rintro σ H Q ⟨Z, F, ρ, μ, Φ, w, h, k⟩
  exact k [] [] μ F H (Same.refl F) w .nil h
theorem a_cons (ha : QE X e de) (hr : QA X es da) (hs : starEach (e :: es) X.env = (false, eval e X.env) :: starEach es X.env := by rfl) : QA X (e :: es) (dCons de da) := by
  refine pa_imp (pa_cons ha hr hs) ?_
  rintro σ H Q ⟨Z, F, ρ, μ, Φ, w, h, k⟩
  refine ⟨Z, F, ρ, μ, _, w, h, fun v d μ1 F1 H1 s1 w1 r1 h1 => ?_⟩
  refine ⟨Z, F1, ρ, μ1, _, w1, h1, fun vs ds μ2 F2 H2 s2 w2 r2 h2 => ?_⟩
  exact k _ _ μ2 F2 H2 (s1.trans s2) w2 (.cons (r1.mono s2) r2) h2
theorem a_star {p : Pos} (ha : QE X e de) (hr : QA X es da) (hs : starEach (.Starred e p :: es) X.env = (true, eval e X.env) :: starEach es X.env := by rfl) : QA X (.Starred e p :: es) (dStar de da) := by
  refine pa_imp (StX.pa_star ha hr hs) ?_
  rintro σ H Q ⟨Z, F, ρ, μ, Φ, w, h, k⟩
  refine ⟨Z, F, ρ, μ, _, w, h, fun v d μ1 F1 H1 s1 w1 r1 h1 => ?_⟩
  obtain ⟨a, vs, ds, rfl, q, rs, h1⟩ := rdSeq_ok w1 r1 h1
  refine ⟨a, vs, rfl, q.symm, Z, F1, ρ, μ1, _, w1, h1, fun vs2 ds2 μ2 F2 H2 s2 w2 r2 h2 => ?_⟩
  exact k _ _ μ2 F2 H2 (s1.trans s2) w2 ((rs.mono s2).append r2) h2
theorem q_tup {x1} (ha : QA X es da) : QE X (.Tuple es x1 pos) (dTup da) := by
  refine pe_imp (pe_tup ha) ?_
  rintro σ H Q ⟨Z, F, ρ, μ, Φ, w, h, k⟩
  refine ⟨Z, F, ρ, μ, _, w, h, fun vs ds μ1 F1 H1 s1 w1 r1 h1 => ?_⟩
  obtain ⟨l, _, h1⟩ := h1.elim
  refine ⟨by rw [r1.length]; exact l, fun p hp => ?_⟩
  have w2 := w1.newF (o := .tup vs) hp
  have s2 : Same F1 (upd F1 p (.tup vs)) := same_new (w1.freshF hp)
  exact k _ _ μ1 _ _ (s1.trans s2) w2 (.tup (SqT.of upd_same) (r1.mono s2)) h1
theorem q_lst (ha : QA X es da) : QE X (.List es pos) (dLst da) := by
  refine pe_imp (pe_lst ha) ?_
  rintro σ H Q ⟨Z, F, ρ, μ, Φ, w, h, k⟩
  refine ⟨Z, F, ρ, μ, _, w, h, fun vs ds μ1 F1 H1 s1 w1 r1 h1 => ?_⟩
  obtain ⟨l, _, h1⟩ := h1.elim
  refine ⟨by rw [r1.length]; exact l, fun p hp => ?_⟩
  have w2 := w1.newF (o := .lst vs) hp
  have s2 : Same F1 (upd F1 p (.lst vs)) := same_new (w1.freshF hp)
  exact k _ _ μ1 _ _ (s1.trans s2) w2 (.lst (SqL.of upd_same) (r1.mono s2)) h1
theorem q_lstM (ha : QA X es da) : QE X (.List es pos) (dLstM da) := by
  refine pe_imp (pe_lst ha) ?_
  rintro σ H Q ⟨Z, F, ρ, μ, Φ, w, h, k⟩
  refine ⟨Z, F, ρ, μ, _, w, h, fun vs ds μ1 F1 H1 s1 w1 r1 h1 => ?_⟩
  obtain ⟨l, _, h1⟩ := h1.elim
  refine ⟨by rw [r1.length]; exact l, fun p hp => ?_⟩
  exact k _ _ _ F1 _ s1 (w1.newM (m := .lst ds) hp ⟨vs, upd_same, r1⟩) (.v _) (h1 p (w1.freshM hp))
end

/-! ### statements -/
def dNext : DS := fun D ρ μ => D.nx ρ μ
def dSeq (t u : DS) : DS := fun D ρ μ => t { D with nx := u D } ρ μ
def dIfS (c : DT) (t u : DS) : DS := fun D ρ μ => c ρ μ fun b μ1 => (b = true → t D ρ μ1) ∧ (b = false → u D ρ μ1)
def dRet (de : DE) : DS := fun D ρ μ => de ρ μ D.rt
def dRetN : DS := fun D _ μ => D.rt dN μ
def dDrop (de : DE) : DS := fun D ρ μ => de ρ μ fun _ μ1 => D.nx ρ μ1
def dAsg (de : DE) (g : DG) : DS := fun D ρ μ => de ρ μ fun x μ1 => g x ρ μ1 D.nx
def dCont : DS := fun D ρ μ => D.ct ρ μ
def dNever : DS := fun _ _ _ => False
/-- a name's mutable object is frozen; the store tells less -/
def dFrz (i : Nat) (ds : DS) : DS := fun D ρ μ => ∃ l m, ρ[i]? = some (some (dR l)) ∧ μ l = some m ∧ D.m0 l = none ∧ ds D (ρ.set i (some m.frz)) (mdel μ l)
def dLess (ds : DS) : DS := fun D ρ μ => ∃ μ', (∀ a o, μ' a = some o → μ a = some o) ∧ ds D ρ μ'
def dgName (i : Nat) : DG := fun d ρ μ Φ => Φ (ρ.set i (some d)) μ
section
variable {X : Cx} {st : Stmt} {rest a b : List Stmt} {t u : DS} {e c : Expr} {de : DE} {dt : DT} {pos : Pos}
theorem ss_nil : QSs X [] dNext := by
  refine pss_imp pss_nil ?_
  rintro E σ H ⟨Z, F, ρ, μ, Dn, w, h, k⟩
  exact k.nx σ ρ μ F H (Same.refl F) w h
theorem ss_cons (h1 : QS X st t) (h2 : QSs X rest u) : QSs X (st :: rest) (dSeq t u) := by
  refine pss_imp (pss_cons h1 h2) ?_
  rintro E σ H ⟨Z, F, ρ, μ, Dn, w, h, k⟩
  exact ⟨Z, F, ρ, μ, { Dn with nx := u Dn }, w, h, ⟨k.loc, fun σ' ρ' μ' F' H' s' w' h' => ⟨Z, F', ρ', μ', Dn, w', h', k.mono s'⟩, k.rt, k.bk, k.ct⟩⟩
theorem ss_one (h1 : QS X st t) : QSs X [st] t := pss_one h1
theorem s_pass : QS X (.Pass pos) dNext := by
  refine ps_imp ps_pass ?_
  rintro E σ H ⟨Z, F, ρ, μ, Dn, w, h, k⟩
  exact k.nx σ ρ μ F H (Same.refl F) w h
theorem s_cont : QS X (.Continue pos) dCont := by
  refine ps_imp ps_continue ?_
  rintro E σ H ⟨Z, F, ρ, μ, Dn, w, h, k⟩
  exact k.ct σ ρ μ F H (Same.refl F) w h
theorem s_never : QS X st dNever := by
  refine ps_imp ps_never ?_
  rintro E σ H ⟨Z, F, ρ, μ, Dn, w, h, k⟩
  exact h
theorem ss_never : QSs X rest dNever := by
  refine pss_imp pss_never ?_
  rintro E σ H ⟨Z, F, ρ, μ, Dn, w, h, k⟩
  exact h
theorem s_if (hc : QT X c dt) (ha : QSs X a t) (hb : QSs X b u) : QS X (.If c a b pos) (dIfS dt t u) := by
  refine ps_imp (ps_if hc ha hb) ?_
  rintro E σ H ⟨Z, F, ρ, μ, Dn, w, h, k⟩
  refine ⟨Z, F, ρ, μ, _, w, h, fun b μ1 F1 H1 s1 w1 h1 => ?_⟩
  cases b with
  | true => exact ⟨Z, F1, ρ, μ1, Dn, w1, h1.1 rfl, k.mono s1⟩
  | false => exact ⟨Z, F1, ρ, μ1, Dn, w1, h1.2 rfl, k.mono s1⟩
theorem s_ret (he : QE X e de) : QS X (.Return (some e) pos) (dRet de) := by
  refine ps_imp (ps_ret he) ?_
  rintro E σ H ⟨Z, F, ρ, μ, Dn, w, h, k⟩
  exact ⟨Z, F, ρ, μ, Dn.rt, w, h, fun v d μ1 F1 H1 s1 w1 r1 h1 => k.rt v d σ ρ μ1 F1 H1 s1 w1 r1 h1⟩
/-- a new mutable object is handed back, frozen -/
def dRetF (de : DE) : DS := fun D ρ μ => de ρ μ fun d μ1 => ∃ l m, d = dR l ∧ μ1 l = some m ∧ D.m0 l = none ∧ D.rt m.frz (mdel μ1 l)
theorem s_retF (he : QE X e de) : QS X (.Return (some e) pos) (dRetF de) := by
  refine ps_imp (ps_ret he) ?_
  rintro E σ H ⟨Z, F, ρ, μ, Dn, w, h, k⟩
  refine ⟨Z, F, ρ, μ, _, w, h, fun v d μ1 F1 H1 s1 w1 r1 h1 => ?_⟩
  obtain ⟨l, m, rfl, e1, e2, h1⟩ := h1
  cases r1
  obtain ⟨F2, s2, w2, r2⟩ := w1.freeze e1 (w1.loc e1 fun z => k.loc l z e2)
  exact k.rt _ _ σ ρ _ F2 H1 (s1.trans s2) w2 r2 h1
theorem s_retN : QS X (.Return none pos) dRetN := by
  refine ps_imp ps_retN ?_
  rintro E σ H ⟨Z, F, ρ, μ, Dn, w, h, k⟩
  exact k.rt .non dN σ ρ μ F H (Same.refl F) w (.v _) h
theorem s_expr (he : QE X e de) (hs : swapsWith e none pos.line X.env = pure false := by rfl) : QS X (.Expr e pos) (dDrop de) := by
  refine ps_imp (ps_expr he hs) ?_
  rintro E σ H ⟨Z, F, ρ, μ, Dn, w, h, k⟩
  exact ⟨Z, F, ρ, μ, _, w, h, fun v d μ1 F1 H1 s1 w1 r1 h1 => k.nx σ ρ μ1 F1 H1 s1 w1 h1⟩
theorem sim_asg {B : Bd} {g : DG} : ∀ E σ H, cS B (dAsg de g) E σ H → tAsg (cE B de) (cG B g) E σ H := by
  rintro E σ H ⟨Z, F, ρ, μ, Dn, w, h, k⟩
  refine ⟨Z, F, ρ, μ, _, w, h, fun v d μ1 F1 H1 s1 w1 r1 h1 => ?_⟩
  exact ⟨Z, F1, ρ, μ1, d, Dn.nx, w1, r1, h1, k.nx.mono s1⟩
theorem sim_gname {B : Bd} {i : Nat} : ∀ v σ H Q, cG B (dgName i) v σ H Q → gName i v σ H Q := by
  rintro v σ H Q ⟨Z, F, ρ, μ, d, Φ, w, r, h, k⟩
  exact k _ _ μ F H (Same.refl F) (w.set r) h
theorem g_name {i : Nat} {x : Str} (hN : X.N.Nodup) (hi : X.N[i]? = some x) (hx : Loc X.env.scope x) (hf : X.fn x = true ∨ X.env.scope.names.lookup x = some .local := by first | exact .inl rfl | exact .inr rfl | assumption) : QG X (.Name x pos) (dgName i) :=
  pg_imp (pg_name hN hi hx hf) sim_gname
theorem s_asg {tg : Expr} {g : DG} (he : QE X e de) (hg : QG X tg g) (hs : swapsWithSole [tg] e pos.line X.env = pure false := by rfl) (hw : swappedStores [tg] e X.env = pure none := by rfl)
    (h1 : (assignEach [tg] X.env).map (·.2) = [assign tg X.env] := by rfl) : QS X (.Assign [tg] e pos) (dAsg de g) := ps_imp (ps_asg he hg hs hw h1) sim_asg
theorem s_set (i : Nat) {x : Str} {pos' : Pos} (hN : X.N.Nodup) (he : QE X e de) (hi : X.N[i]? = some x := by rfl) (hx : Loc X.env.scope x := by first | exact Or.inl rfl | exact Or.inr rfl) (hs : swapsWith e (some (.Name x pos')) pos.line X.env = pure false := by rfl) (hf : X.fn x = true ∨ X.env.scope.names.lookup x = some .local := by first | exact .inl rfl | exact .inr rfl | assumption) :
    QS X (.Assign [.Name x pos'] e pos) (dAsg de (dgName i)) := by
  refine ps_imp (ps_set hN hi hx he hs hf) fun E σ H h => ?_
  obtain ⟨Z, F, ρ, μ, Φ, w, h, k⟩ := sim_asg E σ H h
  exact ⟨Z, F, ρ, μ, Φ, w, h, fun v d μ1 F1 H1 s1 w1 r1 h1 => sim_gname _ _ _ _ (k v d μ1 F1 H1 s1 w1 r1 h1)⟩
theorem sim_frz {B : Bd} {i : Nat} : ∀ E σ H, cS B (dFrz i t) E σ H → cS B t E σ H := by
  rintro E σ H ⟨Z, F, ρ, μ, Dn, w, ⟨l, m, e1, e2, e3, h⟩, k⟩
  obtain ⟨F2, s2, w2, r2⟩ := w.freeze e2 (w.loc e2 fun z => k.loc l z e3)
  obtain ⟨v, e4, r4⟩ := w.slots.at_ i _ e1
  cases r4
  have w3 := w2.set (i := i) r2
  rw [show σ.set i (some (.ref l)) = σ from by
    refine List.ext_getElem? fun j => ?_
    by_cases q : i = j
    · subst q
      rw [List.getElem?_set_self (List.getElem?_eq_some_iff.mp e4).1, e4]
    · rw [List.getElem?_set_ne q]] at w3
  exact ⟨Z, F2, _, _, Dn, w3, h, k.mono s2⟩
theorem ss_frz (i : Nat) (h : QSs X rest t) : QSs X rest (dFrz i t) := pss_imp h sim_frz
theorem ss_less (h : QSs X rest t) : QSs X rest (dLess t) := by
  refine pss_imp h ?_
  rintro E σ H ⟨Z, F, ρ, μ, Dn, w, ⟨μ', e, h⟩, k⟩
  exact ⟨Z, F, ρ, μ', Dn, w.less e, h, k⟩

/-! ### targets of several names; two, three names at once -/
abbrev DGs := List D → Rho → Mu → (Rho → Mu → Prop) → Prop
def cGs (B : Bd) (dg : DGs) : TGs := fun vs σ H Q => ∃ Z F ρ μ ds Φ, WS B Z F H σ ρ μ ∧ Reps B F vs ds ∧ dg ds ρ μ Φ ∧ KtS B Z F Φ Q
abbrev QGs (X : Cx) (ts : List Expr) (dg : DGs) : Prop := PGs X ts (cGs (Bof X) dg)
def dgNil : DGs := fun ds ρ μ Φ => match ds with | [] => Φ ρ μ | _ => False
def dgCons (g : DG) (gs : DGs) : DGs := fun ds ρ μ Φ => match ds with | [] => False | x :: r => g x ρ μ fun ρ1 μ1 => gs r ρ1 μ1 Φ
def dgTup (n : Nat) (gs : DGs) : DG := fun d ρ μ Φ => match d with | .tup ds => (match Nat.beq ds.length n with | true => gs ds ρ μ Φ | false => False) | _ => False
theorem pgs_imp {ts : List Expr} {t u : TGs} (h : PGs X ts t) (k : ∀ v σ H Q, u v σ H Q → t v σ H Q) : PGs X ts u := ⟨fun pins s σ H v uu Q I r hw => h.run pins s σ H v uu Q I r (k _ _ _ _ hw)⟩
theorem gs_nil : QGs X [] dgNil := by
  refine pgs_imp pgs_nil ?_
  rintro vs σ H Q ⟨Z, F, ρ, μ, ds, Φ, w, r, h, k⟩
  cases r with
  | nil => exact ⟨rfl, k σ ρ μ F H (Same.refl F) w h⟩
  | cons _ _ => exact h.elim
theorem gs_cons {es : List Expr} {g : DG} {gs : DGs} (h1 : QG X e g) (h2 : QGs X es gs)
    (hs : (assignEach (e :: es) X.env).map (·.2) = assign e X.env :: (assignEach es X.env).map (·.2) := by rfl) : QGs X (e :: es) (dgCons g gs) := by
  refine pgs_imp (pgs_cons h1 h2 hs) ?_
  rintro vs σ H Q ⟨Z, F, ρ, μ, ds, Φ, w, r, h, k⟩
  cases r with
  | nil => exact h.elim
  | cons r t =>
    refine ⟨_, _, rfl, Z, F, ρ, μ, _, _, w, r, h, fun σ' ρ' μ' F' H' s' w' h' => ?_⟩
    exact ⟨Z, F', ρ', μ', _, Φ, w', t.mono s', h', k.mono s'⟩
theorem g_tup {es : List Expr} {k0 : Nat} {gs : DGs} {n : Nat} (hc : X.calm = true) (h : QGs X es gs)
    (hn : (assignEach es X.env).length = n := by rfl) (hst : (assignEach es X.env).findIdx? (·.1) = none := by rfl) : QG X (.Tuple es k0 pos) (dgTup n gs) := by
  refine pg_imp (pg_tup (k := k0) hc h hn hst) ?_
  rintro v σ H Q ⟨Z, F, ρ, μ, d, Φ, w, r, h, k⟩
  unfold dgTup at h
  split at h
  · cases r with
    | tup q t =>
      split at h
      · rename_i e
        exact ⟨_, _, rfl, sqt_mono w.sub q, by rw [t.length]; exact Nat.eq_of_beq_eq_true e, Z, F, ρ, μ, _, Φ, w, t, h, k⟩
      · exact h.elim
  · exact h.elim
def dPar (i j : Nat) (da : DA) : DS := fun D ρ μ => da ρ μ fun xs μ1 => match xs with | [x, y] => D.nx ((ρ.set i (some x)).set j (some y)) μ1 | _ => False
theorem s_par (i j : Nat) {x y : Str} {a b : Expr} {da : DA} {px py pt : Pos} {kt k2 pt2} (hc : X.calm = true) (hN : X.N.Nodup) (ha : QA X [a, b] da)
    (hw : swappedStores [.Tuple [.Name x px, .Name y py] kt pt] (.Tuple [a, b] k2 pt2) X.env = pure (some [x, y])) (hij : i ≠ j := by decide) (hi : X.N[i]? = some x := by rfl) (hj : X.N[j]? = some y := by rfl)
    (hx : X.env.scope.names.lookup x = some .local := by rfl) (hy : X.env.scope.names.lookup y = some .local := by rfl)
    (hs : swapsWithSole [.Tuple [.Name x px, .Name y py] kt pt] (.Tuple [a, b] k2 pt2) pos.line X.env = pure false := by rfl) :
    QS X (.Assign [.Tuple [.Name x px, .Name y py] kt pt] (.Tuple [a, b] k2 pt2) pos) (dPar i j da) := by
  refine ps_imp (ps_par (i := i) (j := j) (pt2 := pt2) (k2 := k2) hc hN hi hj hij hx hy ha hw hs) ?_
  rintro E σ H ⟨Z, F, ρ, μ, Dn, w, h, k⟩
  refine ⟨Z, F, ρ, μ, _, w, h, fun vs ds μ1 F1 H1 s1 w1 r1 h1 => ?_⟩
  split at h1
  · cases r1 with
    | cons ra t => cases t with
      | cons rb t => cases t; exact ⟨_, _, rfl, k.nx _ _ μ1 F1 H1 s1 ((w1.set ra).set rb) h1⟩
  · exact h1.elim
def dPar3 (i j l : Nat) (da : DA) : DS := fun D ρ μ => da ρ μ fun xs μ1 => match xs with | [x, y, z] => D.nx (((ρ.set i (some x)).set j (some y)).set l (some z)) μ1 | _ => False
theorem s_par3 (i j l : Nat) {x y z : Str} {a b c : Expr} {da : DA} {px py pz pt : Pos} {kt k2 pt2} (hc : X.calm = true) (hN : X.N.Nodup) (ha : QA X [a, b, c] da)
    (hw : swappedStores [.Tuple [.Name x px, .Name y py, .Name z pz] kt pt] (.Tuple [a, b, c] k2 pt2) X.env = pure (some [x, y, z])) (hij : i ≠ j := by decide) (hil : i ≠ l := by decide) (hjl : j ≠ l := by decide) (hi : X.N[i]? = some x := by rfl) (hj : X.N[j]? = some y := by rfl) (hl : X.N[l]? = some z := by rfl)
    (hx : X.env.scope.names.lookup x = some .local := by rfl) (hy : X.env.scope.names.lookup y = some .local := by rfl) (hz : X.env.scope.names.lookup z = some .local := by rfl)
    (hs : swapsWithSole [.Tuple [.Name x px, .Name y py, .Name z pz] kt pt] (.Tuple [a, b, c] k2 pt2) pos.line X.env = pure false := by rfl) :
    QS X (.Assign [.Tuple [.Name x px, .Name y py, .Name z pz] kt pt] (.Tuple [a, b, c] k2 pt2) pos) (dPar3 i j l da) := by
  refine ps_imp (ps_par3 (i := i) (j := j) (l := l) (pt2 := pt2) (k2 := k2) hc hN hi hj hl hij hil hjl hx hy hz ha hw hs) ?_
  rintro E σ H ⟨Z, F, ρ, μ, Dn, w, h, k⟩
  refine ⟨Z, F, ρ, μ, _, w, h, fun vs ds μ1 F1 H1 s1 w1 r1 h1 => ?_⟩
  split at h1
  · cases r1 with
    | cons ra t => cases t with
      | cons rb t => cases t with
        | cons rc t => cases t; exact ⟨_, _, _, rfl, k.nx _ _ μ1 F1 H1 s1 (((w1.set ra).set rb).set rc) h1⟩
  · exact h1.elim

/-! ### while -/
def dWhile (c : DT) (db : DS) : DS := fun D ρ μ => ∃ W : Nat → Rho → Mu → Prop, (∃ m, W m ρ μ) ∧ ∀ m ρ μ, W m ρ μ → c ρ μ fun b μ1 =>
  (b = true → db { D with nx := fun ρ' μ' => ∃ m', m' < m ∧ W m' ρ' μ', ct := fun ρ' μ' => ∃ m', m' < m ∧ W m' ρ' μ', bk := D.nx } ρ μ1) ∧ (b = false → D.nx ρ μ1)
theorem s_while {db : DS} (hp : PassesOwn (model X.prog X.w) X.A X.env X.xe) (hc : QT X c dt) (hb : QSs X a db) : QS X (.While c a [] pos) (dWhile dt db) := by
  refine ps_imp (ps_while hp hc hb) ?_
  rintro E σ H ⟨Z, F, ρ, μ, Dn, w, ⟨W, ⟨m0, w0⟩, hw⟩, k⟩
  refine ⟨fun m σ' H' => ∃ F' ρ' μ', Same F F' ∧ WS (Bof X) Z F' H' σ' ρ' μ' ∧ W m ρ' μ', ⟨m0, F, ρ, μ, Same.refl F, w, w0⟩, ?_⟩
  rintro m σ1 H1 ⟨F1, ρ1, μ1, s1, w1, wm⟩
  refine ⟨Z, F1, ρ1, μ1, _, w1, hw m ρ1 μ1 wm, fun b μ2 F2 H2 s2 w2 h2 => ?_⟩
  cases b with
  | false => exact k.nx _ _ _ _ _ (s1.trans s2) w2 (h2.2 rfl)
  | true =>
    have nx : KtS (Bof X) Z F2 (fun ρ' μ' => ∃ m', m' < m ∧ W m' ρ' μ') (fun σ' H' => ∃ m', m' < m ∧ ∃ F' ρ' μ', Same F F' ∧ WS (Bof X) Z F' H' σ' ρ' μ' ∧ W m' ρ' μ') :=
      fun σ3 ρ3 μ3 F3 H3 s3 w3 ⟨m', lt, h3⟩ => ⟨m', lt, F3, ρ3, μ3, s1.trans (s2.trans s3), w3, h3⟩
    refine ⟨_, fun _ _ q => q, Z, F2, ρ1, μ2, _, w2, h2.1 rfl, ⟨k.loc, nx, k.rt.mono (s1.trans s2), k.nx.mono (s1.trans s2), nx⟩⟩
end

/-! ### what a def promises -/
abbrev DSp := List D → Mu → DK → Prop
def spOf (B : Bd) (dsp : DSp) : Sp := fun vs H Q _ => ∃ F μ ds Φ, WS B ⟨F, H, dom μ⟩ F H [] [] μ ∧ Reps B F vs ds ∧ dsp ds μ Φ ∧
  ∀ v d μ' F' H', WS B ⟨F, H, dom μ⟩ F' H' [] [] μ' → Rep B F' v d → Φ d μ' → Q v H'
/-- from a state: what a callee wants, what it gives -/
theorem spOf_at {B : Bd} {Z : Zc} {F H : Hp} {σ : L2.St} {ρ : Rho} {μ : Mu} {vs : List V} {ds : List D} {dsp : DSp} {Φ : DK} {Q : VK} {E : XK} (w : WS B Z F H σ ρ μ) (r : Reps B F vs ds) (h : dsp ds μ Φ) (k : Kt B Z σ ρ F Φ Q) : spOf B dsp vs H Q E :=
  ⟨F, μ, ds, Φ, w.rebase.reslot Slots.nil, r, h, fun v d μ' F' H' w' r' h' => k v d μ' F' H' w'.grow (w.comp (w'.reslot (w.slots.mono w'.grow))) r' h'⟩
/-- a def of the module by its name -/
def FnG (P : Program) (w : World) (K : PySem.W.Frag) (mg : Str → Option Value) (base : Heap) (x : Str) (ps : List Str) (k : Nat) (dsp : DSp) : Prop :=
  ∃ f fd, mg x = some (.ref f) ∧ PySem.W.keepIn K (.ref f) = true ∧ Binds K fd ps [] ∧ FnOk P w K mg base CX0 k f fd ps (spOf ⟨P, w, K⟩ dsp)
def dCall (dsp : DSp) (da : DA) : DE := fun ρ μ Φ => da ρ μ fun xs μ1 => dsp xs μ1 Φ
theorem FnG.mono {P : Program} {w : World} {K : PySem.W.Frag} {mg : Str → Option Value} {base : Heap} {x : Str} {ps : List Str} {j k : Nat} {dsp : DSp} (G : FnG P w K mg base x ps j dsp) (h : j ≤ k) : FnG P w K mg base x ps k dsp :=
  let ⟨f, fd, a, b, c, d⟩ := G; ⟨f, fd, a, b, c, d.mono h⟩
section
variable {X : Cx} {e o : Expr} {es : List Expr} {de : DE} {da : DA} {pos p apos : Pos} {x m : Str} {ps : List Str} {k : Nat} {dsp : DSp}
theorem sim_call {B : Bd} {E : XK} : ∀ σ H Q, cE B (dCall dsp da) σ H Q → tCall (spOf B dsp) [] E (cA B da) σ H Q := by
  rintro σ H Q ⟨Z, F, ρ, μ, Φ, w, h, k⟩
  refine ⟨Z, F, ρ, μ, _, w, h, fun vs ds μ1 F1 H1 s1 w1 r1 h1 => ?_⟩
  show spOf B dsp (vs ++ []) H1 Q E
  rw [List.append_nil]
  exact spOf_at w1 r1 h1 (k.mono s1)
theorem q_call (G : FnG X.prog X.w X.K X.mg X.base x ps k dsp) (hr : Room k X.A) (hg : Gl X x) (ha : QA X (e :: es) da) (hdb : (x == ("__debug__" : Str)) = false := by decide)
    (he : starEach (e :: es) X.env = (false, eval e X.env) :: starEach es X.env := by rfl) (hpl : (backTo pos (starEach es X.env)).any (·.1) = false := by rfl) : QE X (.Call (.Name x p) (e :: es) [] pos) (dCall dsp da) := by
  obtain ⟨f, fd, hm, hk, hb, F⟩ := G
  exact pe_imp (pe_call (E := E0) F hr hg hm hk hb .nil pass0 ha hdb he hpl) sim_call
/-- f(e, *t, ..) -/
theorem q_callS (G : FnG X.prog X.w X.K X.mg X.base x ps k dsp) (hr : Room k X.A) (hg : Gl X x) (ha : QA X (e :: es) da) (hdb : (x == ("__debug__" : Str)) = false := by decide)
    (he : starEach (e :: es) X.env = (false, eval e X.env) :: starEach es X.env := by rfl) (hst : (backTo pos (starEach es X.env)).any (·.1) = true := by rfl) : QE X (.Call (.Name x p) (e :: es) [] pos) (dCall dsp da) := by
  obtain ⟨f, fd, hm, hk, hb, F⟩ := G
  have R : FnR X.prog X.w X.K X.mg X.base CX0 k f (spOf (Bof X) dsp) := fun A outer s H us vs Q E hr e0 r h => by
    have hl : us.length = ps.length := by rw [← r.length]; exact F.len _ _ _ _ h
    have kin : X.K.In s.heap := e0.mod.kin.keeps fun b o q => (e0.bs b o q).1
    refine F.run A outer s H ⟨us, []⟩ us vs Q E hr e0 ?_ r h
    have z := hb s us kin (by rw [List.append_nil]; exact hl)
    rwa [List.append_nil] at z
  refine pe_imp (StX.pe_callS2 (E := E0) R hr hk hg hm pass0 ha hdb he hst) fun σ H Q h => ?_
  obtain ⟨Z, F, ρ, μ, Φ, w, h, k⟩ := sim_call (E := E0) σ H Q h
  refine ⟨Z, F, ρ, μ, Φ, w, h, fun vs ds μ1 F1 H1 s1 w1 r1 h1 => ?_⟩
  have z : spOf (Bof X) dsp (vs ++ []) H1 Q E0 := k vs ds μ1 F1 H1 s1 w1 r1 h1
  rwa [List.append_nil] at z

/-! ### the body of a def -/
def startD (n : Nat) (ds : List D) : Rho := ds.map some ++ List.replicate (n - ds.length) none
theorem slots_start {B : Bd} {F : Hp} {vs : List V} {ds : List D} {N : List Str} (r : Reps B F vs ds) : Slots B F (L2.start N vs) (startD N.length ds) := by
  have hl := r.length
  refine ⟨by unfold L2.start startD; simp [hl], fun i d e => ?_⟩
  unfold startD at e
  unfold L2.start
  by_cases hi : i < ds.length
  · rw [List.getElem?_append_left (by simpa using hi), List.getElem?_map] at e
    cases q : ds[i]? with
    | none => rw [q] at e; cases e
    | some z =>
      rw [q] at e
      have e : some (some z) = some (some d) := e
      cases e
      obtain ⟨v, h1, h2⟩ := r.get q
      exact ⟨v, by rw [List.getElem?_append_left (by simpa [hl] using hi), List.getElem?_map, h1] <;> rfl, h2⟩
  · rw [List.getElem?_append_right (by simpa using Nat.le_of_not_lt hi), List.getElem?_replicate] at e
    split at e <;> cases e
/-- the end of a def: the store may be forgotten in part -/
def endD (μ : Mu) (Φ : DK) : DEnds := { m0 := μ, nx := fun _ μ1 => ∃ μ2, (∀ a o, μ2 a = some o → μ1 a = some o) ∧ Φ dN μ2, rt := fun d μ1 => ∃ μ2, (∀ a o, μ2 a = some o → μ1 a = some o) ∧ Φ d μ2 }
theorem body_ok {B : Bd} {dsp : DSp} {ds : DS} {N : List Str} {vs : List V} {H : Hp} {Q : VK} {E : XK} (h : spOf B dsp vs H Q E)
    (hb : ∀ args μ Φ, dsp args μ Φ → ds (endD μ Φ) (startD N.length args) μ) : cS B ds { nx := fun _ H' => Q .non H', rt := Q } (L2.start N vs) H := by
  obtain ⟨F, μ, args, Φ, w, r, h, k⟩ := h
  refine ⟨⟨F, H, dom μ⟩, F, _, μ, endD μ Φ, w.reslot (slots_start r), hb args μ Φ h, ⟨fun a z => z, ?_, ?_, ?_, ?_⟩⟩
  · rintro σ' ρ' μ' F' H' s' w' ⟨μ2, e2, h'⟩
    exact k .non dN μ2 F' H' ((w'.less e2).reslot Slots.nil) (.v _) h'
  · rintro v d σ' ρ' μ' F' H' s' w' r' ⟨μ2, e2, h'⟩
    exact k v d μ2 F' H' ((w'.less e2).reslot Slots.nil) r' h'
  · exact fun _ _ _ _ _ _ _ h => h.elim
  · exact fun _ _ _ _ _ _ _ h => h.elim
end
/-- THE RULE for a def of the module -/
theorem fnG_ok {P : Program} {w : World} {K : PySem.W.Frag} {mg : Str → Option Value} {base : Heap} {x : Str} {st : Stmt} {N ps : List Str} {k : Nat} {dsp : DSp} (F : ∃ f fd, mg x = some (.ref f) ∧ Fun K x x st f fd ∧ Binds K fd ps []) (S : FnScope N ps (defScope st))
    (len : ∀ ds μ Φ, dsp ds μ Φ → ds.length = ps.length)
    (hb : ∀ (f : Addr) (cdv : Value) (A : Around) (outer : List Env) (s : Shared) (H : Hp) (E : XK), Room k (A.deeper (envOfC x (defScope st) s.heap.objs.size f cdv)) →
      ∃ ds, QSs (cxOf CX0 P w K mg base N x (defScope st) f cdv A outer s H E).nox (defBody st) ds ∧ ∀ args μ Φ, dsp args μ Φ → ds (endD μ Φ) (startD N.length args) μ) : FnG P w K mg base x ps (k + 1) dsp := by
  obtain ⟨f, fd, hm, F, hbd⟩ := F
  refine ⟨f, fd, hm, F.kp, hbd, F.ok S (fun vs H Q E h => ?_) fun cdv A outer s H vs Q E hr h => ?_⟩
  · obtain ⟨F, μ, args, Φ, w, r, h, k⟩ := h
    rw [r.length]
    exact len _ _ _ h
  · obtain ⟨ds, h1, h2⟩ := hb f cdv A outer s H E hr
    exact ⟨_, h1, body_ok h h2⟩
end K3
set_option Elab.async false
set_option linter.all false
set_option maxRecDepth 100000
set_option maxHeartbeats 4000000
/-! KD: what is walked (frozen lists, tuples, ranges, enumerate, zip, dicts by their keys), for, comprehensions. -/
namespace K3
open PySem PySem.Spec PyProof.Rows L2

abbrev DI := Rho → Mu → (List D → Mu → Prop) → Prop
/-- the iterator yields the data xs, one after the other, while the frozen heap lasts -/
def WalkD (B : Bd) (Z : Zc) (J : It) (F : Hp) (xs : List D) : Prop := ∀ (F1 H1 : Hp) (σ : L2.St) (ρ : Rho) (μ : Mu), Same F F1 → WS B Z F1 H1 σ ρ μ → ∀ i : Nat,
  (i < xs.length → J.go i H1 ∧ ∀ x H2, J.yld i H1 x H2 → ∃ F2 d, Same F1 F2 ∧ WS B Z F2 H2 σ ρ μ ∧ xs[i]? = some d ∧ Rep B F2 x d ∧ (∀ a o, H1 a = some o → H2 a = some o)) ∧ (i = xs.length → J.stop i H1)
def cI (B : Bd) (di : DI) : TI := fun σ H R => ∃ Z F ρ μ Ψ, WS B Z F H σ ρ μ ∧ di ρ μ Ψ ∧ ∀ J xs μ' F' H', Same F F' → WS B Z F' H' σ ρ μ' → (∀ Z', WalkD B Z' J F' xs) → Ψ xs μ' → R J H'
abbrev QI (X : Cx) (tg iter : Expr) (di : DI) : Prop := PI X tg iter (cI (Bof X) di)
theorem pi_imp {X : Cx} {tg iter : Expr} {t u : TI} (h : PI X tg iter t) (k : ∀ σ H R, u σ H R → t σ H R) : PI X tg iter u := ⟨fun pins s σ H R I hw => h.run pins s σ H R I (k _ _ _ hw)⟩

/-! ### lists, tuples, ranges -/
def diL (de : DE) : DI := fun ρ μ Ψ => de ρ μ fun x μ1 => match x with | .lst xs => Ψ xs μ1 | _ => False
def diT (de : DE) : DI := fun ρ μ Ψ => de ρ μ fun x μ1 => match x with | .tup xs => Ψ xs μ1 | _ => False
def rngD (lo : Int) (n : Nat) : List D := (List.range n).map fun (i : Nat) => dI (lo + (i : Int))
theorem rngD_len (lo : Int) (n : Nat) : (rngD lo n).length = n := by unfold rngD; simp
theorem rngD_get {lo : Int} {n i : Nat} (h : i < n) : (rngD lo n)[i]? = some (dI (lo + (i : Int))) := by unfold rngD; simp [h]
def diR1 (da : DA) : DI := fun ρ μ Ψ => da ρ μ fun xs μ1 => match xs with | [.v (.int j)] => (-(2 ^ 62) ≤ j ∧ j < 2 ^ 62) ∧ Ψ (rngD 0 j.toNat) μ1 | _ => False
def diR2 (da : DA) : DI := fun ρ μ Ψ => da ρ μ fun xs μ1 => match xs with | [.v (.int i), .v (.int j)] => (-(2 ^ 62) ≤ i ∧ i < 2 ^ 62 ∧ -(2 ^ 62) ≤ j ∧ j < 2 ^ 62) ∧ Ψ (rngD i (j - i).toNat) μ1 | _ => False
section
variable {B : Bd} {Z : Zc} {F : Hp} {a : Addr} {vs : List V} {ds : List D}
theorem walkL (q : SqL B.K F a vs) (r : Reps B F vs ds) : WalkD B Z (Itl B.K a) F ds := by
  intro F1 H1 σ ρ μ s w i
  have qh : SqL B.K H1 a vs := sql_mono (s.trans w.sub) q
  refine ⟨fun hi => ?_, fun hi => ⟨vs, qh, by rw [r.length]; exact Nat.le_of_eq hi.symm⟩⟩
  obtain ⟨v, hv, rv⟩ := r.get (List.getElem?_eq_getElem hi)
  refine ⟨⟨vs, v, qh, hv⟩, fun x H2 y => ?_⟩
  obtain ⟨rfl, y⟩ := y
  obtain ⟨d, hd, rd⟩ := r.getV (y vs qh)
  exact ⟨F1, d, Same.refl F1, w, hd, rd.mono s, fun _ _ e => e⟩
theorem walkT (q : SqT B.K F a vs) (r : Reps B F vs ds) : WalkD B Z (Itt B.K a) F ds := by
  intro F1 H1 σ ρ μ s w i
  have qh : SqT B.K H1 a vs := sqt_mono (s.trans w.sub) q
  refine ⟨fun hi => ?_, fun hi => ⟨vs, qh, by rw [r.length]; exact Nat.le_of_eq hi.symm⟩⟩
  obtain ⟨v, hv, rv⟩ := r.get (List.getElem?_eq_getElem hi)
  refine ⟨⟨vs, v, qh, hv⟩, fun x H2 y => ?_⟩
  obtain ⟨rfl, y⟩ := y
  obtain ⟨d, hd, rd⟩ := r.getV (y vs qh)
  exact ⟨F1, d, Same.refl F1, w, hd, rd.mono s, fun _ _ e => e⟩
theorem walkR {lo : Int} {n : Nat} : WalkD B Z (Itr lo n) F (rngD lo n) := by
  intro F1 H1 σ ρ μ s w i
  rw [rngD_len]
  refine ⟨fun hi => ⟨hi, fun x H2 y => ?_⟩, fun hi => Nat.le_of_eq hi.symm⟩
  obtain ⟨rfl, rfl⟩ := y
  exact ⟨F1, _, Same.refl F1, w, rngD_get hi, .v _, fun _ _ e => e⟩
end
section
variable {X : Cx} {tg e e2 : Expr} {es : List Expr} {de : DE} {da : DA} {p pos tpos : Pos}
theorem i_list (he : QE X e de) : QI X tg e (diL de) := by
  refine pi_imp (pi_list he) ?_
  rintro σ H R ⟨Z, F, ρ, μ, Ψ, w, h, k⟩
  refine ⟨Z, F, ρ, μ, _, w, h, fun v d μ1 F1 H1 s1 w1 r1 h1 => ?_⟩
  split at h1
  · cases r1 with
    | lst q r => exact ⟨_, rfl, ⟨_, sql_mono w1.sub q⟩, k _ _ μ1 F1 H1 s1 w1 (fun Z' => walkL q r) h1⟩
  · exact h1.elim
theorem i_tup (he : QE X e de) : QI X tg e (diT de) := by
  refine pi_imp (pi_tup he) ?_
  rintro σ H R ⟨Z, F, ρ, μ, Ψ, w, h, k⟩
  refine ⟨Z, F, ρ, μ, _, w, h, fun v d μ1 F1 H1 s1 w1 r1 h1 => ?_⟩
  split at h1
  · cases r1 with
    | tup q r => exact ⟨_, rfl, ⟨_, sqt_mono w1.sub q⟩, k _ _ μ1 F1 H1 s1 w1 (fun Z' => walkT q r) h1⟩
  · exact h1.elim
theorem i_range1 (hg : Gl X "range") (hm : X.mg "range" = none) (ha : QA X [e] da) (hs : starEach [e] X.env = [(false, eval e X.env)] := by rfl) : QI X tg (.Call (.Name "range" p) [e] [] pos) (diR1 da) := by
  refine pi_imp (pi_range1 hg hm ha hs) ?_
  rintro σ H R ⟨Z, F, ρ, μ, Ψ, w, h, k⟩
  refine ⟨Z, F, ρ, μ, _, w, h, fun vs ds μ1 F1 H1 s1 w1 r1 h1 => ?_⟩
  split at h1
  · cases r1 with
    | cons r t =>
      cases t; cases r
      exact ⟨_, rfl, h1.1.1, h1.1.2, k _ _ μ1 F1 H1 s1 w1 (fun Z' => walkR) h1.2⟩
  · exact h1.elim
theorem i_range2 (hg : Gl X "range") (hm : X.mg "range" = none) (ha : QA X [e, e2] da) (hs : starEach [e, e2] X.env = [(false, eval e X.env), (false, eval e2 X.env)] := by rfl) (hs2 : starEach [e2] X.env = [(false, eval e2 X.env)] := by rfl) :
    QI X tg (.Call (.Name "range" p) [e, e2] [] pos) (diR2 da) := by
  refine pi_imp (pi_range2 hg hm ha hs hs2) ?_
  rintro σ H R ⟨Z, F, ρ, μ, Ψ, w, h, k⟩
  refine ⟨Z, F, ρ, μ, _, w, h, fun vs ds μ1 F1 H1 s1 w1 r1 h1 => ?_⟩
  split at h1
  · cases r1 with
    | cons r t =>
      cases t with
      | cons r' t =>
        cases t; cases r; cases r'
        exact ⟨_, _, rfl, h1.1, k _ _ μ1 F1 H1 s1 w1 (fun Z' => walkR) h1.2⟩
  · exact h1.elim

/-! ### enumerate -/
def enumD (xs : List D) : List D := xs.mapIdx fun i d => .tup [dI (i : Int), d]
theorem enumD_len (xs : List D) : (enumD xs).length = xs.length := by unfold enumD; simp
theorem enumD_get (xs : List D) (i : Nat) : (enumD xs)[i]? = xs[i]?.map fun d => .tup [dI (i : Int), d] := by unfold enumD; simp
def diEL (da : DA) : DI := fun ρ μ Ψ => da ρ μ fun xs μ1 => match xs with | [.lst ds] => Ψ (enumD ds) μ1 | _ => False
def diET (da : DA) : DI := fun ρ μ Ψ => da ρ μ fun xs μ1 => match xs with | [.tup ds] => Ψ (enumD ds) μ1 | _ => False
/-- a new pair -/
theorem newPair {B : Bd} {Z : Zc} {F1 H1 : Hp} {σ : L2.St} {ρ : Rho} {μ : Mu} {T : Addr} {x y : V} {dx dy : D} (w : WS B Z F1 H1 σ ρ μ) (h : H1 T = none) (rx : Rep B F1 x dx) (ry : Rep B F1 y dy) :
    ∃ F2, Same F1 F2 ∧ WS B Z F2 (upd H1 T (.tup [x, y])) σ ρ μ ∧ Rep B F2 (.ref T) (.tup [dx, dy]) :=
  have s2 : Same F1 (upd F1 T (.tup [x, y])) := same_new (w.freshF h)
  ⟨_, s2, w.newF h, .tup (SqT.of upd_same) (.cons (rx.mono s2) (.cons (ry.mono s2) .nil))⟩
theorem kept_new {H : Hp} {T : Addr} {o : HO} (h : H T = none) : ∀ a u, H a = some u → upd H T o a = some u := fun a u e => by
  rw [upd_ne (ne_of_none e h)]; exact e
theorem i_enumL {elts : List Expr} {kk : Nat} (hg : Gl X "enumerate") (hm : X.mg "enumerate" = none) (ha : QA X [e] da) (hs : starEach [e] X.env = [(false, eval e X.env)] := by rfl) :
    QI X (.Tuple elts kk tpos) (.Call (.Name "enumerate" p) [e] [] pos) (diEL da) := by
  refine pi_imp (pi_enum hg hm ha hs) ?_
  rintro σ H R ⟨Z, F, ρ, μ, Ψ, w, h, k⟩
  refine ⟨Z, F, ρ, μ, _, w, h, fun vs ds μ1 F1 H1 s1 w1 r1 h1 => ?_⟩
  split at h1
  · rename_i ds
    cases r1 with
    | cons r t =>
      cases t
      cases r with
      | lst q r =>
        refine ⟨_, _, rfl, sql_mono w1.sub q, k _ (enumD ds) μ1 F1 H1 s1 w1 (fun Z' => ?_) h1⟩
        intro F2 H2 σ2 ρ2 μ2 s w2 i
        have qh := sql_mono (s.trans w2.sub) q
        rw [enumD_len, enumD_get]
        refine ⟨fun hi => ?_, fun hi => ⟨_, qh, by rw [r.length]; exact Nat.le_of_eq hi.symm⟩⟩
        obtain ⟨v, hv, rv⟩ := r.get (List.getElem?_eq_getElem hi)
        refine ⟨⟨_, v, qh, hv⟩, fun x H3 y => ?_⟩
        obtain ⟨T, x', rfl, hT, rfl, y⟩ := y
        obtain ⟨d, hd, rd⟩ := r.getV (y _ qh)
        obtain ⟨F3, s3, w3, r3⟩ := newPair w2 hT (.v (.int (i : Nat))) (rd.mono s)
        exact ⟨F3, _, s3, w3, by rw [hd] <;> rfl, r3, kept_new hT⟩
  · exact h1.elim
/-- the tuple at a, each item in a new pair with its number -/
def ItEt (K : PySem.W.Frag) (a : Addr) : It :=
  ⟨fun i H => ∃ (xs : List V) (x : V), SqT K H a xs ∧ xs[i]? = some x, fun i H v H' => ∃ T x, v = .ref T ∧ H T = none ∧ H' = upd H T (.tup [.int (i : Nat), x]) ∧ ∀ xs, SqT K H a xs → xs[i]? = some x, fun i H => ∃ xs : List V, SqT K H a xs ∧ i = xs.length⟩
theorem turn_enumT {P : Program} {w : World} {K : PySem.W.Frag} {elts : List Expr} {kk : Nat} (a en it : Addr) :
    Turn P w K (.Tuple elts kk tpos) (ItEt K a) [en, it] en (fun i h => (∃ old, IsEnum h en it ((i : Nat) : Int) old) ∧ h.IsTupleIter it a i ∧ en ≠ it ∧ en ≠ a ∧ a ≠ it) where
  mem := by simp
  obj := fun i h st b hb => by
    obtain ⟨⟨old, he⟩, ⟨o, ho, hc, hd⟩, _⟩ := st
    rcases (show b = en ∨ b = it by simpa using hb) with q | q
    · rw [q]; exact ⟨_, he, fun v z => nomatch z⟩
    · rw [q]; exact ⟨o, ho, fun v z => by rw [hd] at z; cases z⟩
  keep := fun i h h' st k => let ⟨⟨old, he⟩, hi, hne⟩ := st; ⟨⟨old, k en (by simp) _ he⟩, hi.at fun o q => k it (by simp) o q, hne⟩
  item := by
    intro X hP hw hK hc i pins s σ H E I hf st hg
    subst hP hw hK
    obtain ⟨⟨old, he⟩, hit, hne, hna, hia⟩ := st
    obtain ⟨xs, x, hq, hx⟩ := hg
    obtain ⟨its, rv, tp, hz⟩ := I.tuple hq
    obtain ⟨u, hu, ru⟩ := rv.get hx
    have hil : i < its.toArray.size := by
      have := (List.getElem?_eq_some_iff.mp hu).1
      simpa using this
    have G := GoesN.enumFrom (prog := X.prog) (w := X.w) (A := X.A) (elts := elts) (x1 := kk) (pos := tpos) (0 : Int) (Draws.tuple (prog := X.prog) (w := X.w) (A := X.A.in1) (I.ok.hd hc) it a hia its.toArray) en hne (by simp [hne, hna]) (by simp)
    have z0 : (0 : Int) + ((i : Nat) : Int) = (i : Int) := Int.zero_add _
    refine G.goes i s _ E hil ⟨⟨old, by rw [z0]; exact he⟩, hit, tp⟩ fun v h' tk y st' hk _ => ?_
    obtain ⟨T, t, y', rfl, hT, hy, htup⟩ := y
    have hy : its[i]? = some y' := by simpa using hy
    rw [hu] at hy
    cases hy
    rw [z0] at htup
    have I1 : Inv X pins σ (upd H T (.tup [.int (i : Nat), x])) { s with heap := h', toks := tk } :=
      I.turnedNew (ch := [en, it]) (fun b o hb q => hk b o hb q) hf hT ⟨by show 2 ≤ sizeLine; decide, [.int i t, u], .cons ⟨_, rfl⟩ (.cons ru .nil), htup⟩
    obtain ⟨⟨old', he'⟩, hit', _⟩ := st'
    refine ⟨.ref T, _, I1, rfl, ⟨T, x, rfl, I.hok.fresh hT, rfl, fun ys hys => by rw [I.tuple_inj hys hq]; exact hx⟩, ⟨⟨old', ?_⟩, hit', hne, hna, hia⟩, fun b hb => ?_⟩
    · have e1 : (0 : Int) + ((i + 1 : Nat) : Int) = ((i + 1 : Nat) : Int) := Int.zero_add _
      rw [e1] at he'
      exact he'
    · have hlt : b < s.heap.objs.size := by
        rcases (show b = en ∨ b = it by simpa using hb) with q | q
        · rw [q]; exact Heap.lt_size he
        · rw [q]; obtain ⟨_, z, _⟩ := hit; exact Heap.lt_size z
      rw [upd_ne (Nat.ne_of_lt (Nat.lt_of_lt_of_le hlt hT))]
      exact (hf b hb).1
  done := by
    intro X hP hw hK hc i pins s σ H E I hf st hg
    subst hP hw hK
    obtain ⟨⟨old, he⟩, hit, hne, hna, hia⟩ := st
    obtain ⟨xs, hq, hx⟩ := hg
    obtain ⟨its, rv, tp, hz⟩ := I.tuple hq
    have hl := rv.length
    obtain ⟨f0, f1, f2, f3, f4, f5⟩ := hf it (by simp)
    have hi : i = its.toArray.size := by simp; omega
    subst hi
    exact wpAny_pyNext_enum_endD (Draws.tuple (prog := X.prog) (w := X.w) (A := X.A.in1) (I.ok.hd hc) it a hia its.toArray) he ⟨hit, tp⟩ fun h' eb => ⟨rfl, I.turned (t' := s.toks) (fun b o hb q => eb b o hb q) f0 f1 f3 f4 f5⟩
  self := fun A i s Q E st h => let ⟨⟨_, he⟩, _⟩ := st; wpAny_pyIter_enum he h

/-- enumerate(t) of a tuple begins -/
theorem meets_enum_tup (a : Addr) (items : Array Value) :
    Meets (Builtin.«enumerate.__new__» ⟨[.type "enumerate", .ref a], []⟩) (fun _ R s => s.heap.IsTuple a items ∧
      R (.ok (.ret (.ref (s.heap.push { cls := .type "tuple_iterator", data := .fields #[.ref a, .int 0 0] }).objs.size)))
        { s with heap := (s.heap.push { cls := .type "tuple_iterator", data := .fields #[.ref a, .int 0 0] }).push { cls := .type "enumerate", data := .fields #[.none, .bool false, .ref s.heap.objs.size, rawInt 0, .none, .none] } }) :=
  .of_wp fun prog w A R s h => by
    obtain ⟨hp, g, dd, tk, os⟩ := s; obtain ⟨ht, h⟩ := h
    have hsub := sub_enumerate
    have q1 : ∀ {A' : Around} {E : Value → Shared → Prop} {Q : Value → Shared → Prop}, Q (.ref hp.objs.size) ⟨hp.push { cls := .type "tuple_iterator", data := .fields #[.ref a, .int 0 0] }, g, dd, tk, os⟩ → wpAny (model prog w) A' (pyIter (.ref a)) Q E ⟨hp, g, dd, tk, os⟩ :=
      fun q => wpAny_pyIter_tuple (s := ⟨hp, g, dd, tk, os⟩) ht q
    wp_walk using q1
    refine wpAny_stack_any fun st => wpAny_pure ?_
    split
    · rename_i c _ _ _ _ _
      cases (c == Value.type "enumerate")
      · wp_walk using q1
        exact ⟨_, rfl, h⟩
      · wp_walk using q1
        exact ⟨_, rfl, h⟩
    · wp_walk using q1
      exact ⟨_, rfl, h⟩
theorem call_enum_tup {prog : Program} {w : World} {A : Around} {E : Value → Shared → Prop} {s : Shared} {a : Addr} {items : Array Value} {Q : Value → Shared → Prop} (ht : s.heap.IsTuple a items)
    (h : ∀ h', IsEnum h' (s.heap.objs.size + 1) s.heap.objs.size 0 .none → h'.IsTupleIter s.heap.objs.size a 0 → (∀ b o, s.heap.get? b = some o → h'.get? b = some o) → Q (.ref (s.heap.objs.size + 1)) { s with heap := h' }) :
    wpAny (model prog w) A (call (.type "enumerate") [.ref a]) Q E s := by
  refine callType_new F.called_enumerate (by decide) (F.typeCall_enumerate_1 _) (F.newCall_enumerate_1 _) (fun obj => F.args_object_init_2 obj _) F.entry_enumerate_new (meets_enum_tup a items) ⟨ht, ?_⟩
  have sz : (s.heap.push { cls := .type "tuple_iterator", data := .fields #[.ref a, .int 0 0] }).objs.size = s.heap.objs.size + 1 := Heap.size_push ..
  show _ ∧ _
  rw [sz]
  have en : IsEnum ((s.heap.push { cls := .type "tuple_iterator", data := .fields #[.ref a, .int 0 0] }).push { cls := .type "enumerate", data := .fields #[.none, .bool false, .ref s.heap.objs.size, rawInt 0, .none, .none] }) (s.heap.objs.size + 1) s.heap.objs.size 0 .none := by
    have z := Heap.get?_push_size (s.heap.push { cls := .type "tuple_iterator", data := .fields #[.ref a, .int 0 0] }) (o := { cls := .type "enumerate", data := .fields #[.none, .bool false, .ref s.heap.objs.size, rawInt 0, .none, .none] }) rfl
    rw [sz] at z; exact z
  exact ⟨⟨_, en, rfl⟩, h _ en ⟨_, Heap.get?_push_of_some _ (Heap.get?_push_size _ rfl), rfl, rfl⟩ fun b o x => Heap.get?_push_of_some _ (Heap.get?_push_of_some _ x)⟩
theorem fp_new {pins : List (Addr × Obj)} {σ : L2.St} {H : Hp} {s : Shared} (I : Inv X pins σ H s) {b : Addr} (h : s.heap.objs.size ≤ b) : FpOk X pins H b := I.fpOk h (I.hok.fresh h)
theorem i_enumT {elts : List Expr} {kk : Nat} (hg : Gl X "enumerate") (hm : X.mg "enumerate" = none) (ha : QA X [e] da) (hs : starEach [e] X.env = [(false, eval e X.env)] := by rfl) :
    QI X (.Tuple elts kk tpos) (.Call (.Name "enumerate" p) [e] [] pos) (diET da) := by
  refine ⟨fun pins s σ H R I h => ?_⟩
  obtain ⟨Z, F, ρ, μ, Ψ, w, h, k⟩ := h
  have key : cA (Bof X) da σ H fun vs H1 => ∃ a xs, vs = [.ref a] ∧ SqT X.K H1 a xs ∧ R (ItEt X.K a) H1 := by
    refine ⟨Z, F, ρ, μ, _, w, h, fun vs ds μ1 F1 H1 s1 w1 r1 h1 => ?_⟩
    split at h1
    · rename_i ds
      cases r1 with
      | cons r t =>
        cases t
        cases r with
        | tup q r =>
          refine ⟨_, _, rfl, sqt_mono w1.sub q, k _ (enumD ds) μ1 F1 H1 s1 w1 (fun Z' => ?_) h1⟩
          intro F2 H2 σ2 ρ2 μ2 s w2 i
          have qh := sqt_mono (s.trans w2.sub) q
          rw [enumD_len, enumD_get]
          refine ⟨fun hi => ?_, fun hi => ⟨_, qh, by rw [r.length]; exact hi⟩⟩
          obtain ⟨v, hv, rv⟩ := r.get (List.getElem?_eq_getElem hi)
          refine ⟨⟨_, v, qh, hv⟩, fun x H3 y => ?_⟩
          obtain ⟨T, x', rfl, hT, rfl, y⟩ := y
          obtain ⟨d, hd, rd⟩ := r.getV (y _ qh)
          obtain ⟨F3, s3, w3, r3⟩ := newPair w2 hT (.v (.int (i : Nat))) (rd.mono s)
          exact ⟨F3, _, s3, w3, by rw [hd] <;> rfl, r3, kept_new hT⟩
    · exact h1.elim
  refine Call_ (ld_blt I hg hm boot_enumerate (PyProof.Rows.callWith_type1 (thn (ha.run pos pins s σ H _ I key) fun us s1 ⟨vs, H1, I1, r1, q1⟩ => ?_) hs rfl))
  obtain ⟨a, xs, ex, hq, q⟩ := q1
  subst ex
  cases r1 with
  | cons r rr =>
    cases rr
    cases r
    obtain ⟨its, rv, tp, hz⟩ := I1.tuple hq
    have la : a < s1.heap.objs.size := tp.lt
    refine call_enum_tup (show s1.heap.IsTuple a its.toArray from tp) fun h' he hit hk => wpAny_pyIter_enum he ?_
    have I2 : Inv X pins σ H1 { s1 with heap := h' } := I1.kept (t' := s1.toks) hk
    refine ⟨s1.heap.objs.size + 1, [s1.heap.objs.size + 1, s1.heap.objs.size], _, _, H1, rfl, I2, turn_enumT a (s1.heap.objs.size + 1) s1.heap.objs.size, ⟨⟨.none, he⟩, hit, Nat.succ_ne_self _, Nat.ne_of_gt (Nat.lt_succ_of_lt la), Nat.ne_of_lt la⟩, fun b hb => fp_new I1 ?_, q⟩
    rcases (show b = s1.heap.objs.size + 1 ∨ b = s1.heap.objs.size by simpa using hb) with z | z
    · rw [z]; exact Nat.le_succ _
    · rw [z]; exact Nat.le_refl _

/-! ### zip of a tuple and a tuple or a list -/
def zipD (xs ys : List D) : List D := (xs.zip ys).map fun z => .tup [z.1, z.2]
theorem zipD_len (xs ys : List D) : (zipD xs ys).length = min xs.length ys.length := by unfold zipD; simp
theorem zipD_get {xs ys : List D} {i : Nat} {x y : D} (hx : xs[i]? = some x) (hy : ys[i]? = some y) : (zipD xs ys)[i]? = some (.tup [x, y]) := by
  unfold zipD
  rw [List.getElem?_map, (List.getElem?_zip_eq_some (z := (x, y))).mpr ⟨hx, hy⟩] <;> rfl
def diZ (da : DA) : DI := fun ρ μ Ψ => da ρ μ fun xs μ1 => match xs with | [.tup ds, .tup es] => Ψ (zipD ds es) μ1 | [.tup ds, .lst es] => Ψ (zipD ds es) μ1 | _ => False
/-- b: the second one is a list -/
def SqB (lb : Bool) (K : PySem.W.Frag) (H : Hp) (a : Addr) (xs : List V) : Prop := match lb with | true => SqL K H a xs | false => SqT K H a xs
def ItZt (lb : Bool) (K : PySem.W.Frag) (a b : Addr) : It :=
  ⟨fun i H => ∃ (xs ys : List V) (x y : V), SqT K H a xs ∧ SqB lb K H b ys ∧ xs[i]? = some x ∧ ys[i]? = some y,
    fun i H v H' => ∃ T x y, v = .ref T ∧ H T = none ∧ H' = upd H T (.tup [x, y]) ∧ (∀ xs, SqT K H a xs → xs[i]? = some x) ∧ ∀ ys, SqB lb K H b ys → ys[i]? = some y,
    fun i H => ∃ xs ys : List V, SqT K H a xs ∧ SqB lb K H b ys ∧ i = min xs.length ys.length⟩
def ItB (lb : Bool) (h : Heap) (it a : Addr) (i : Nat) : Prop := match lb with | true => h.IsListIter it a i | false => h.IsTupleIter it a i
def SeqB (lb : Bool) (h : Heap) (a : Addr) (its : Array Value) : Prop := match lb with | true => h.IsList a its | false => h.IsTuple a its
theorem drawsB {prog : Program} {w : World} {A : Around} (lb : Bool) (hh : A.handled = none) (it a : Addr) (hne : a ≠ it) (items : Array Value) :
    Draws prog w A it [it, a] items.size (fun i v => items[i]? = some v) (fun i h => ItB lb h it a i ∧ SeqB lb h a items) := by
  cases lb with
  | true => exact Draws.list hh it a hne items
  | false => exact Draws.tuple hh it a hne items
theorem seqB_of {pins : List (Addr × Obj)} {σ : L2.St} {H : Hp} {s : Shared} {lb : Bool} {a : Addr} {xs : List V} (I : Inv X pins σ H s) (h : SqB lb X.K H a xs) : ∃ its : List Value, Vals xs its ∧ SeqB lb s.heap a its.toArray ∧ a < s.heap.objs.size := by
  cases lb with
  | true => obtain ⟨its, r, pl, _⟩ := I.list h; exact ⟨its, r, pl.isList, pl.lt⟩
  | false => obtain ⟨its, r, pl, _⟩ := I.tuple h; exact ⟨its, r, pl, pl.lt⟩
theorem seqB_inj {pins : List (Addr × Obj)} {σ : L2.St} {H : Hp} {s : Shared} {lb : Bool} {a : Addr} {xs ys : List V} (I : Inv X pins σ H s) (h : SqB lb X.K H a xs) (h' : SqB lb X.K H a ys) : xs = ys := by
  cases lb with
  | true => exact I.list_inj h h'
  | false => exact I.tuple_inj h h'
theorem itB_lt {lb : Bool} {h : Heap} {it a : Addr} {i : Nat} (q : ItB lb h it a i) : ∃ o, h.get? it = some o ∧ ∀ v, o.data ≠ .cell v := by
  cases lb with
  | true => obtain ⟨o, e, _, d⟩ := q; exact ⟨o, e, fun v z => by rw [d] at z; cases z⟩
  | false => obtain ⟨o, e, _, d⟩ := q; exact ⟨o, e, fun v z => by rw [d] at z; cases z⟩
theorem itB_at {lb : Bool} {h h' : Heap} {it a : Addr} {i : Nat} (q : ItB lb h it a i) (k : ∀ o, h.get? it = some o → h'.get? it = some o) : ItB lb h' it a i := by
  cases lb with
  | true => exact Heap.IsListIter.at q k
  | false => exact Heap.IsTupleIter.at q k
/-- the cells of the zip lie apart, whatever stands below -/
structure ZA (z TI TO i1 i2 a b : Addr) : Prop where
  zTI : TI ≠ z
  zTO : TO ≠ z
  TT : TI ≠ TO
  zi1 : z ≠ i1
  zi2 : z ≠ i2
  T1 : TI ≠ i1
  T2 : TI ≠ i2
  O1 : TO ≠ i1
  O2 : TO ≠ i2
  ii : i1 ≠ i2
  za : z ≠ a
  zb : z ≠ b
  Oa : TO ≠ a
  Ob : TO ≠ b
  a1 : a ≠ i1
  a2 : i2 ≠ a
  b1 : i1 ≠ b
  b2 : b ≠ i2
theorem ZA.sep {z TI TO i1 i2 a b : Addr} (D : ZA z TI TO i1 i2 a b) : ZipSep2 z TI TO i1 i2 [i1, a] [i2, b] :=
  ⟨D.zTI, D.zTO, D.TT, D.T1, by simp, by simp [D.zi1, D.za], by simp [D.O1, D.Oa], D.T2, by simp, by simp [D.zi2, D.zb], by simp [D.O2, D.Ob], by simp [D.ii, D.b1], by simp [D.ii.symm, D.a2]⟩
theorem turn_zipB {P : Program} {w : World} {K : PySem.W.Frag} {elts : List Expr} {kk : Nat} {lb : Bool} {a b z TI TO i1 i2 : Addr} (D : ZA z TI TO i1 i2 a b) :
    Turn P w K (.Tuple elts kk tpos) (ItZt lb K a b) [z, TI, TO, i1, i2] z (fun i h => IsZip h z TI TO .none ∧ IsTupOf2 h TI (.ref i1) (.ref i2) ∧ (∃ x y, IsTupOf2 h TO x y) ∧ h.IsTupleIter i1 a i ∧ ItB lb h i2 b i) where
  mem := by simp
  obj := fun i h st c hc => by
    obtain ⟨hz, hTI, ⟨x, y, hTO⟩, h1, h2⟩ := st
    rcases (show c = z ∨ c = TI ∨ c = TO ∨ c = i1 ∨ c = i2 by simpa using hc) with q | q | q | q | q
    · rw [q]; exact ⟨_, hz, fun v q => nomatch q⟩
    · rw [q]; exact ⟨_, hTI, fun v q => nomatch q⟩
    · rw [q]; exact ⟨_, hTO, fun v q => nomatch q⟩
    · rw [q]; exact itB_lt (lb := false) h1
    · rw [q]; exact itB_lt h2
  keep := fun i h h' st k => by
    obtain ⟨hz, hTI, ⟨x, y, hTO⟩, h1, h2⟩ := st
    exact ⟨k z (by simp) _ hz, k TI (by simp) _ hTI, ⟨x, y, k TO (by simp) _ hTO⟩, h1.at fun o q => k i1 (by simp) o q, itB_at h2 fun o q => k i2 (by simp) o q⟩
  item := by
    intro X hP hw hK hc i pins s σ H E I hf st hg
    subst hP hw hK
    obtain ⟨hz, hTI, hTO, h1, h2⟩ := st
    obtain ⟨xs, ys, x, y, hqx, hqy, hx, hy⟩ := hg
    obtain ⟨its, rv, tp, _⟩ := I.tuple hqx
    obtain ⟨its2, rv2, tp2, _⟩ := seqB_of I hqy
    obtain ⟨u, hu, ru⟩ := rv.get hx
    obtain ⟨u2, hu2, ru2⟩ := rv2.get hy
    have l1 : i < its.toArray.size := by simpa using (List.getElem?_eq_some_iff.mp hu).1
    have l2 : i < its2.toArray.size := by simpa using (List.getElem?_eq_some_iff.mp hu2).1
    have G := GoesN.zip2 (prog := X.prog) (w := X.w) (A := X.A) (elts := elts) (x1 := kk) (pos := tpos) D.sep (Draws.tuple (prog := X.prog) (w := X.w) (A := X.A.in1) (I.ok.hd hc) i1 a D.a1 its.toArray) (drawsB (prog := X.prog) (w := X.w) (A := X.A.in1) lb (I.ok.hd hc) i2 b D.b2 its2.toArray)
    have old : ∀ c ∈ [z, TI, TO, i1, i2], c < s.heap.objs.size := fun c hcm => by
      obtain ⟨x0, y0, hTO⟩ := hTO
      rcases (show c = z ∨ c = TI ∨ c = TO ∨ c = i1 ∨ c = i2 by simpa using hcm) with q | q | q | q | q
      · rw [q]; exact Heap.lt_size hz
      · rw [q]; exact Heap.lt_size hTI
      · rw [q]; exact Heap.lt_size hTO
      · rw [q]; obtain ⟨_, e, _⟩ := itB_lt (lb := false) h1; exact Heap.lt_size e
      · rw [q]; obtain ⟨_, e, _⟩ := itB_lt h2; exact Heap.lt_size e
    refine G.goes i s _ E (Nat.lt_min.mpr ⟨l1, l2⟩) ⟨hz, hTI, hTO, ⟨h1, tp⟩, ⟨h2, tp2⟩⟩ fun v h' tk q st' hk _ => ?_
    obtain ⟨T, x', y', rfl, hT, hx', hy', htup⟩ := q
    have hx' : its[i]? = some x' := by simpa using hx'
    have hy' : its2[i]? = some y' := by simpa using hy'
    rw [hu] at hx'; rw [hu2] at hy'
    cases hx'; cases hy'
    have I1 : Inv X pins σ (upd H T (.tup [x, y])) { s with heap := h', toks := tk } :=
      I.turnedNew (ch := [z, TI, TO, i1, i2]) (fun c o hb q => hk c o (fun m => hb (by
        rcases (show c = z ∨ c = TO ∨ c = i1 ∨ c = i2 by simpa using m) with q | q | q | q <;> simp [q])) q) hf hT ⟨by show 2 ≤ sizeLine; decide, [u, u2], .cons ru (.cons ru2 .nil), htup⟩
    obtain ⟨z', TI', TO', ⟨h1', _⟩, ⟨h2', _⟩⟩ := st'
    refine ⟨.ref T, _, I1, rfl, ⟨T, x, y, rfl, I.hok.fresh hT, rfl, fun l hl => by rw [I.tuple_inj hl hqx]; exact hx, fun l hl => by rw [seqB_inj I hl hqy]; exact hy⟩, ⟨z', TI', TO', h1', h2'⟩, fun c hcm => ?_⟩
    rw [upd_ne (Nat.ne_of_lt (Nat.lt_of_lt_of_le (old c hcm) hT))]
    exact (hf c hcm).1
  done := by
    intro X hP hw hK hc i pins s σ H E I hf st hg
    subst hP hw hK
    obtain ⟨hz, hTI, hTO, h1, h2⟩ := st
    obtain ⟨xs, ys, hqx, hqy, hend⟩ := hg
    obtain ⟨its, rv, tp, _⟩ := I.tuple hqx
    obtain ⟨its2, rv2, tp2, _⟩ := seqB_of I hqy
    have l1 := rv.length
    have l2 := rv2.length
    have hi : i = min its.toArray.size its2.toArray.size := by simp; omega
    subst hi
    have G := GoesN.zip2 (prog := X.prog) (w := X.w) (A := X.A) (elts := elts) (x1 := kk) (pos := tpos) D.sep (Draws.tuple (prog := X.prog) (w := X.w) (A := X.A.in1) (I.ok.hd hc) i1 a D.a1 its.toArray) (drawsB (prog := X.prog) (w := X.w) (A := X.A.in1) lb (I.ok.hd hc) i2 b D.b2 its2.toArray)
    refine G.stops s _ E ⟨hz, hTI, hTO, ⟨h1, tp⟩, ⟨h2, tp2⟩⟩ fun h' tk hk _ => ?_
    exact I.turnedL (t' := tk) (ch := [z, TI, TO, i1, i2]) (fun c o hb q => hk c o (fun m => hb (by
        rcases (show c = z ∨ c = TO ∨ c = i1 ∨ c = i2 by simpa using m) with q | q | q | q <;> simp [q])) q) hf
  self := fun A i s Q E st h => wpAny_pyIter_zip st.1 h
theorem beginsB (lb : Bool) (a : Addr) (its : Array Value) : ∃ o, Begins (.ref a) o (fun h => SeqB lb h a its) ∧ ∀ (h : Heap) (it : Addr), h.get? it = some o → ItB lb h it a 0 := by
  cases lb with
  | true => exact ⟨_, begins_list a its, fun h it e => ⟨_, e, rfl, rfl⟩⟩
  | false => exact ⟨_, begins_tuple a its, fun h it e => ⟨_, e, rfl, rfl⟩⟩
theorem i_zip {elts : List Expr} {kk : Nat} (hg : Gl X "zip") (hm : X.mg "zip" = none) (ha : QA X [e, e2] da)
    (hs : starEach [e, e2] X.env = (false, eval e X.env) :: starEach [e2] X.env := by rfl) (hpl : (backTo pos (starEach [e2] X.env)).any (·.1) = false := by rfl) :
    QI X (.Tuple elts kk tpos) (.Call (.Name "zip" p) [e, e2] [] pos) (diZ da) := by
  refine ⟨fun pins s σ H R I h => ?_⟩
  obtain ⟨Z, F, ρ, μ, Ψ, w, h, k⟩ := h
  have wz : ∀ {lb : Bool} {F1 : Hp} {a b : Addr} {vs ws : List V} {ds es : List D} {Z' : Zc}, SqT X.K F1 a vs → Reps (Bof X) F1 vs ds → (∀ {F2 H2 : Hp}, Same F1 F2 → Same F2 H2 → SqB lb X.K H2 b ws) → Reps (Bof X) F1 ws es → WalkD (Bof X) Z' (ItZt lb X.K a b) F1 (zipD ds es) := by
    intro lb F1 a b vs ws ds es Z' q r q2 r2
    intro F2 H2 σ2 ρ2 μ2 s w2 i
    have qh := sqt_mono (s.trans w2.sub) q
    have qh2 := q2 s w2.sub
    rw [zipD_len]
    refine ⟨fun hi => ?_, fun hi => ⟨_, _, qh, qh2, by rw [r.length, r2.length]; exact hi⟩⟩
    obtain ⟨hi1, hi2⟩ := Nat.lt_min.mp hi
    obtain ⟨v, hv, rv⟩ := r.get (List.getElem?_eq_getElem hi1)
    obtain ⟨v2, hv2, rv2⟩ := r2.get (List.getElem?_eq_getElem hi2)
    refine ⟨⟨_, _, v, v2, qh, qh2, hv, hv2⟩, fun x H3 y => ?_⟩
    obtain ⟨T, x', y', rfl, hT, rfl, y1, y2⟩ := y
    obtain ⟨d, hd, rd⟩ := r.getV (y1 _ qh)
    obtain ⟨d2, hd2, rd2⟩ := r2.getV (y2 _ qh2)
    obtain ⟨F3, s3, w3, r3⟩ := newPair w2 hT (rd.mono s) (rd2.mono s)
    exact ⟨F3, _, s3, w3, zipD_get hd hd2, r3, kept_new hT⟩
  have key : cA (Bof X) da σ H fun vs H1 => ∃ lb a b xs ys, vs = [.ref a, .ref b] ∧ SqT X.K H1 a xs ∧ SqB lb X.K H1 b ys ∧ R (ItZt lb X.K a b) H1 := by
    refine ⟨Z, F, ρ, μ, _, w, h, fun vs ds μ1 F1 H1 s1 w1 r1 h1 => ?_⟩
    split at h1
    · cases r1 with
      | cons r t =>
        cases t with
        | cons r2 t =>
          cases t
          cases r with
          | tup q r =>
            cases r2 with
            | tup q2 r2 => exact ⟨false, _, _, _, _, rfl, sqt_mono w1.sub q, sqt_mono w1.sub q2, k _ _ μ1 F1 H1 s1 w1 (fun Z' => wz (lb := false) q r (fun s t => sqt_mono (s.trans t) q2) r2) h1⟩
    · cases r1 with
      | cons r t =>
        cases t with
        | cons r2 t =>
          cases t
          cases r with
          | tup q r =>
            cases r2 with
            | lst q2 r2 => exact ⟨true, _, _, _, _, rfl, sqt_mono w1.sub q, sql_mono w1.sub q2, k _ _ μ1 F1 H1 s1 w1 (fun Z' => wz (lb := true) q r (fun s t => sql_mono (s.trans t) q2) r2) h1⟩
    · exact h1.elim
  refine Call_ (ld_blt I hg hm PyProof.Rows.boot_zip (PyProof.Rows.callWith_type1 (thn (ha.run pos pins s σ H _ I key) fun us s1 ⟨vs, H1, I1, r1, q1⟩ => ?_) hs hpl))
  obtain ⟨lb, a, b, xs, ys, ex, hqx, hqy, q⟩ := q1
  subst ex
  cases r1 with
  | cons r rr =>
    cases rr with
    | cons r' rr =>
      cases rr
      cases r
      cases r'
      obtain ⟨its, rv, tp, _⟩ := I1.tuple hqx
      obtain ⟨its2, rv2, tp2, lb2⟩ := seqB_of I1 hqy
      have la : a < s1.heap.objs.size := tp.lt
      obtain ⟨o2, B2, f2⟩ := beginsB lb b its2.toArray
      refine zip_begins2 (begins_tuple a its.toArray) B2 tp tp2 fun h' hz hTI hTO g1 g2 hsz hk => wpAny_pyIter_zip hz ?_
      have I2 : Inv X pins σ H1 { s1 with heap := h' } := I1.kept (t' := s1.toks) hk
      obtain ⟨N, hN⟩ : ∃ N, N = s1.heap.objs.size := ⟨_, rfl⟩
      rw [← hN] at hz hTI hTO g1 g2 la lb2 ⊢
      have na : ∀ j : Nat, (N + j : Nat) ≠ a := fun j z => absurd la (Nat.not_lt.mpr (by rw [← z]; exact Nat.le_add_right _ _))
      have nb : ∀ j : Nat, (N + j : Nat) ≠ b := fun j z => absurd lb2 (Nat.not_lt.mpr (by rw [← z]; exact Nat.le_add_right _ _))
      have apart : ZA (N + 4) (N + 2) (N + 3) N (N + 1) a b :=
        ⟨show (N + 2 : Nat) ≠ N + 4 by omega, show (N + 3 : Nat) ≠ N + 4 by omega, show (N + 2 : Nat) ≠ N + 3 by omega, show (N + 4 : Nat) ≠ N by omega, show (N + 4 : Nat) ≠ N + 1 by omega, show (N + 2 : Nat) ≠ N by omega, show (N + 2 : Nat) ≠ N + 1 by omega,
          show (N + 3 : Nat) ≠ N by omega, show (N + 3 : Nat) ≠ N + 1 by omega, show (N : Nat) ≠ N + 1 by omega, na 4, nb 4, na 3, nb 3, (na 0).symm, na 1, nb 0, (nb 1).symm⟩
      refine ⟨N + 4, [N + 4, N + 2, N + 3, N, N + 1], _, _, H1, rfl, I2, turn_zipB apart, ⟨hz, hTI, ⟨_, _, hTO⟩, ⟨_, g1, rfl, rfl⟩, f2 _ _ g2⟩, fun c hcm => fp_new I1 ?_, q⟩
      rw [← hN]
      rcases (show c = N + 4 ∨ c = N + 2 ∨ c = N + 3 ∨ c = N ∨ c = N + 1 by simpa using hcm) with q | q | q | q | q
      · rw [q]; exact Nat.le_add_right _ _
      · rw [q]; exact Nat.le_add_right _ _
      · rw [q]; exact Nat.le_add_right _ _
      · rw [q]; exact Nat.le_refl _
      · rw [q]; exact Nat.le_add_right _ _
end
end K3
set_option Elab.async false
set_option linter.all false
set_option maxRecDepth 100000
set_option maxHeartbeats 4000000
/-! KL: a dict's keys walked, for, list comprehensions. -/
namespace K3
open PySem PySem.Spec PyProof.Rows L2

/-! ### a dict by its keys -/
theorem keyD_rep {B : Bd} {F : Hp} {b : Addr} {k : List Leaf} (q : SqT B.K F b (k.map leafV)) : Rep B F (.ref b) (keyD k) := by
  have e : keyD k = .tup ((k.map leafV).map D.v) := by unfold keyD; rw [List.map_map] <;> rfl
  rw [e]
  exact .tup q (Reps.of_scal _)
theorem Repk.get {B : Bd} {F : Hp} : ∀ {xs : List (List Leaf × Addr × Value)} {kvs : List (List Leaf × D)} {i : Nat} {kd : List Leaf × D}, Repk B F xs kvs → kvs[i]? = some kd →
    ∃ b u v, xs[i]? = some (kd.1, b, u) ∧ SqT B.K F b (kd.1.map leafV) ∧ RelV v u ∧ Rep B F v kd.2
  | _, _, _, _, .nil, e => by simp at e
  | _, _, 0, _, .cons q r h _, e => by simp at e; subst e; exact ⟨_, _, _, rfl, q, r, h⟩
  | _, _, i + 1, kd, .cons _ _ _ t, e => by
    obtain ⟨b, u, v, h1, h2⟩ := Repk.get (i := i) (kd := kd) t (by simpa using e)
    exact ⟨b, u, v, by simpa using h1, h2⟩
theorem Repk.length {B : Bd} {F : Hp} : ∀ {xs : List (List Leaf × Addr × Value)} {kvs : List (List Leaf × D)}, Repk B F xs kvs → xs.length = kvs.length
  | _, _, .nil => rfl
  | _, _, .cons _ _ _ t => by rw [List.length_cons, List.length_cons, Repk.length t]
theorem DEs.size {B : Bd} {es : Array DictEntry} {xs : List (List Leaf × Addr × Value)} (h : DEs B es xs) : es.size = xs.length := by
  rw [← Array.length_toList, h.1, List.length_map]
theorem DEs.key {B : Bd} {es : Array DictEntry} {xs : List (List Leaf × Addr × Value)} {i : Nat} {k : List Leaf} {b : Addr} {u : Value} (h : DEs B es xs) (e : xs[i]? = some (k, b, u)) : ∃ en, es[i]? = some en ∧ en.key = .ref b ∧ en.val = u := by
  have z : es.toList[i]? = some (entryOfKey (tupleKind (leafKind B.P B.w)) (k, b, u)) := by rw [h.1, List.getElem?_map, e] <;> rfl
  exact ⟨_, by simpa using z, rfl, rfl⟩
def Itdk (a : Addr) (es : Array DictEntry) (ep : Nat) : It :=
  ⟨fun i H => H a = some (dno a es ep) ∧ ∃ en b, es[i]? = some en ∧ en.key = .ref b, fun i H x H' => H' = H ∧ ∃ en b, es[i]? = some en ∧ en.key = .ref b ∧ x = .ref b, fun i H => H a = some (dno a es ep) ∧ i = es.size⟩
theorem dno_at {P : Program} {w : World} {H : Hp} {h : Heap} {a : Addr} {es : Array DictEntry} {ep : Nat} (ok : HOk P w H h) (e : H a = some (dno a es ep)) : (a == sysModules) = false ∧ ∃ o, h.get? a = some o ∧ o.ExactDict ∧ o.data = .dict es ep := by
  obtain ⟨q, _, _⟩ := ok a _ e
  exact q
theorem turn_dk {P : Program} {w : World} {K : PySem.W.Frag} {tg : Expr} (a it : Addr) (es : Array DictEntry) (ep : Nat) : Turn P w K tg (Itdk a es ep) [it] it (fun i h => h.IsKeyIter it a i es.size ep) where
  mem := by simp
  obj := fun i h st b hb => by
    have q : b = it := by simpa using hb
    rw [q]
    obtain ⟨o, e, c, dd⟩ := st
    exact ⟨o, e, fun v z => by rw [dd] at z; cases z⟩
  keep := fun i h h' st k => let ⟨o, e, r⟩ := st; ⟨o, k it (by simp) o e, r⟩
  item := by
    intro X hP hw hK hc i pins s σ H E I hf st hg
    subst hP hw hK
    obtain ⟨hH, en, b, he, hk⟩ := hg
    obtain ⟨hs, o, ho, hx, hd⟩ := dno_at I.hok hH
    obtain ⟨f0, f1, f2, f3, f4, f5⟩ := hf it (by simp)
    refine next_key_item st ho hd rfl he fun h' st' sb => ?_
    have I1 : Inv X pins σ H { s with heap := h' } := I.turned (t' := s.toks) (fun c u hb e => (sb.2 c hb).trans e) f0 f1 f3 f4 f5
    obtain ⟨oi, e1, c1, d1⟩ := id st'
    exact ⟨_, rfl, go_of (s := { s with heap := h' }) e1 c1 d1 (by decide) ⟨.ref b, H, I1, hk, ⟨rfl, en, b, he, hk, rfl⟩, st', fun c hb => (hf c hb).1⟩⟩
  done := by
    intro X hP hw hK hc i pins s σ H E I hf st hg
    subst hP hw hK
    obtain ⟨hH, hi⟩ := hg
    obtain ⟨hs, o, ho, hx, hd⟩ := dno_at I.hok hH
    obtain ⟨f0, f1, f2, f3, f4, f5⟩ := hf it (by simp)
    exact next_key_end (I.ok.hd hc) st ho hd rfl (Nat.le_of_eq hi.symm) fun h' eb => ⟨rfl, I.turned (t' := s.toks) (fun c u hb e => eb c u hb e) f0 f1 f3 f4 f5⟩
  self := fun A i s Q E st h => wpAny_pyIter_keyiter st h
/-- for k in d -/
def diK (de : DE) : DI := fun ρ μ Ψ => de ρ μ fun x μ1 => match x with | .dct kvs => Ψ (kvs.map fun kv => keyD kv.1) μ1 | _ => False
theorem i_keys {X : Cx} {tg e : Expr} {de : DE} (he : QE X e de) : QI X tg e (diK de) := by
  refine ⟨fun pins s σ H R I h => ?_⟩
  obtain ⟨Z, F, ρ, μ, Ψ, w, h, k⟩ := h
  have key : cE (Bof X) de σ H fun v H1 => ∃ a es ep, v = .ref a ∧ H1 a = some (dno a es ep) ∧ R (Itdk a es ep) H1 := by
    refine ⟨Z, F, ρ, μ, _, w, h, fun v d μ1 F1 H1 s1 w1 r1 h1 => ?_⟩
    split at h1
    · rename_i kvs
      cases r1 with
      | dct hF hE r =>
        refine ⟨_, _, _, rfl, w1.sub _ _ hF, k _ _ μ1 F1 H1 s1 w1 (fun Z' => ?_) h1⟩
        intro F2 H2 σ2 ρ2 μ2 s w2 i
        have hH := w2.sub _ _ (s _ _ hF)
        rw [List.length_map]
        refine ⟨fun hi => ?_, fun hi => ⟨hH, by rw [hE.size, r.length]; exact hi⟩⟩
        obtain ⟨b, u, v, h1, h2, _, _⟩ := r.get (List.getElem?_eq_getElem hi)
        obtain ⟨en, e1, e2, _⟩ := hE.key h1
        refine ⟨⟨hH, en, b, e1, e2⟩, fun x H3 y => ?_⟩
        obtain ⟨rfl, en', b', e3, e4, rfl⟩ := y
        rw [e1] at e3; cases e3
        rw [e2] at e4; cases e4
        exact ⟨F2, _, Same.refl F2, w2, by rw [List.getElem?_map, List.getElem?_eq_getElem hi] <;> rfl, keyD_rep (sqt_mono s h2), fun _ _ e => e⟩
    · exact h1.elim
  refine thn (he.run pins s σ H _ I key) fun v s1 ⟨x, H1, I1, r1, a, es, ep, ex, hH, q⟩ => ?_
  subst ex
  obtain rfl : v = Value.ref a := r1
  obtain ⟨hs, o, ho, hx, hd⟩ := dno_at I1.hok hH
  refine iter_keys hs ho hx hd ?_
  exact pi_one (tk := s1.toks) I1 _ (turn_dk a _ es ep) ⟨_, Heap.get?_push_size _ rfl, rfl, rfl⟩ q

/-! ### for -/
def dFor (di : DI) (dg : DG) (db : DS) : DS := fun D ρ μ => di ρ μ fun xs μ1 => ∃ W : Nat → Rho → Mu → Prop, W 0 ρ μ1 ∧
  (∀ i x ρ' μ', xs[i]? = some x → W i ρ' μ' → dg x ρ' μ' fun ρ2 μ2 => db { D with nx := W (i + 1), ct := W (i + 1), bk := D.nx } ρ2 μ2) ∧ ∀ ρ' μ', W xs.length ρ' μ' → D.nx ρ' μ'
section
variable {X : Cx} {tg iter : Expr} {body : List Stmt} {di : DI} {dg : DG} {db : DS} {pos : Pos}
theorem s_for (hp : PassesOwn (model X.prog X.w) X.A X.env X.xe) (hc : X.calm = true) (hi : QI X tg iter di) (hg : QG X tg dg) (hb : QSs X body db)
    (hs : ∀ x, foldedSetIterable iter X.env x = pure x := by intro _; rfl) : QS X (.For tg iter body [] pos) (dFor di dg db) := by
  refine ps_imp (ps_for hp hc hi hg hb hs) ?_
  rintro E σ H ⟨Z, F, ρ, μ, Dn, w, h, k⟩
  refine ⟨Z, F, ρ, μ, _, w, h, fun J xs μ1 F1 H1 s1 w1 wk h1 => ?_⟩
  obtain ⟨W, w0, step, done⟩ := h1
  refine ⟨fun i m σ' H' => m = xs.length - i ∧ i ≤ xs.length ∧ ∃ F' ρ' μ', Same F1 F' ∧ WS (Bof X) Z F' H' σ' ρ' μ' ∧ W i ρ' μ', ⟨_, rfl, Nat.zero_le _, F1, ρ, μ1, Same.refl F1, w1, w0⟩, ?_⟩
  rintro i m σ2 H2 ⟨rfl, hi, F2, ρ2, μ2, s2, w2, wi⟩
  by_cases hlt : i < xs.length
  · obtain ⟨go, yl⟩ := (wk Z F2 H2 σ2 ρ2 μ2 s2 w2 i).1 hlt
    refine .inr ⟨go, fun σ' H' => ∃ F' ρ' μ', Same F1 F' ∧ WS (Bof X) Z F' H' σ' ρ' μ' ∧ W (i + 1) ρ' μ', fun σ' H' q => ⟨xs.length - (i + 1), by omega, rfl, hlt, q⟩, fun x H3 y => ?_⟩
    obtain ⟨F3, d, s3, w3, hd, rd, _⟩ := yl x H3 y
    refine ⟨Z, F3, ρ2, μ2, d, _, w3, rd, step i d ρ2 μ2 hd wi, fun σ4 ρ4 μ4 F4 H4 s4 w4 h4 => ?_⟩
    have s14 : Same F1 F4 := s2.trans (s3.trans s4)
    have nx : KtS (Bof X) Z F4 (W (i + 1)) (fun σ' H' => ∃ F' ρ' μ', Same F1 F' ∧ WS (Bof X) Z F' H' σ' ρ' μ' ∧ W (i + 1) ρ' μ') := fun σ5 ρ5 μ5 F5 H5 s5 w5 h5 => ⟨F5, ρ5, μ5, s14.trans s5, w5, h5⟩
    exact ⟨Z, F4, ρ4, μ4, _, w4, h4, ⟨k.loc, nx, k.rt.mono (s1.trans s14), k.nx.mono (s1.trans s14), nx⟩⟩
  · have e : i = xs.length := by omega
    subst e
    exact .inl ⟨(wk Z F2 H2 σ2 ρ2 μ2 s2 w2 _).2 rfl, k.nx σ2 ρ2 μ2 F2 H2 (s1.trans s2) w2 (done ρ2 μ2 wi)⟩
end

/-! ### list comprehensions -/
/-- one object beside the store, through a piece of code that does not know it -/
theorem WS.back {B : Bd} {Z : Zc} {F F' H H' : Hp} {σ σ' : L2.St} {ρ ρ' : Rho} {μ μ' : Mu} {p : Addr} {o : MO} (w : WS B Z F H σ ρ (mup μ p o)) (hm : μ p = none) (w' : WS B ⟨F, H, dom μ⟩ F' H' σ' ρ' μ') :
    WS B Z F' H' σ' ρ' (mup μ' p o) ∧ μ' p = none ∧ H' p = H p := by
  obtain ⟨f0, z0, r0⟩ := w.muts p o mup_same
  obtain ⟨u, hu⟩ := ne_none r0.some
  obtain ⟨h1, h2, h3⟩ := w'.frame hu hm f0
  refine ⟨w.comp ⟨w'.sub, w'.grow, fun a x e m => w'.keep a x e fun z => m ?_, w'.there, w'.new, w'.slots, fun a x e => ?_⟩, h3, h1.trans hu.symm⟩
  · by_cases q : a = p
    · rw [q] at z; exact absurd hm z
    · show mup μ p o a ≠ none
      rw [mup_ne q]; exact z
  · by_cases q : a = p
    · subst q
      rw [mup_same] at e; cases e
      exact ⟨h2, .inr (show mup μ a o a ≠ none by rw [mup_same]; exact fun z => nomatch z), r0.mono w'.grow (h1.trans hu.symm)⟩
    · rw [mup_ne q] at e
      obtain ⟨m1, m2, m3⟩ := w'.muts a x e
      refine ⟨m1, m2.imp id fun z => ?_, m3⟩
      show mup μ p o a ≠ none
      rw [mup_ne q]; exact z
def dYes : DT := fun _ μ Φ => Φ true μ
/-- [e for x in .. if t]; what is made so far is acc -/
inductive LcD (bl : D → Option Rho) (dt : DT) (de : DE) (xs : List D) (μ1 : Mu) (Φ : List D → Mu → Prop) : Prop
  | mk (W : Nat → List D → Mu → Prop) (h0 : W 0 [] μ1)
    (h1 : ∀ i x acc μ', xs[i]? = some x → W i acc μ' → match bl x with | none => False | some ρb => dt ρb μ' fun b μ2 => (b = true → de ρb μ2 fun y μ3 => lenOk acc.length (W (i + 1) (acc ++ [y]) μ3)) ∧ (b = false → W (i + 1) acc μ2))
    (h2 : ∀ ys μ', W xs.length ys μ' → Φ ys μ')
def dLc (di : DI) (bl : Rho → D → Option Rho) (dt : DT) (de : DE) : DE := fun ρ μ Φ => di ρ μ fun xs μ1 => LcD (bl ρ) dt de xs μ1 fun ys μ2 => Φ (.lst ys) μ2
def dLcM (di : DI) (bl : Rho → D → Option Rho) (dt : DT) (de : DE) : DE := fun ρ μ Φ => di ρ μ fun xs μ1 => LcD (bl ρ) dt de xs μ1 fun ys μ2 => ∀ p, μ2 p = none → Φ (dR p) (mup μ2 p (.lst ys))
def bl1 (j : Nat) : Rho → D → Option Rho := fun ρ x => some (ρ.set j (some x))
def bl2 (j l : Nat) : Rho → D → Option Rho := fun ρ x => match x with | .tup [a, b] => some ((ρ.set j (some a)).set l (some b)) | _ => none
def bl3 (j l m : Nat) : Rho → D → Option Rho := fun ρ x => match x with | .tup [a, b, c] => some (((ρ.set j (some a)).set l (some b)).set m (some c)) | _ => none
/-- how the target is stored: V side g, wiped slots vs, D side bl -/
structure Blk (B : Bd) (g : TG) (vs : List Nat) (bl : Rho → D → Option Rho) : Prop where
  go : ∀ (σ : L2.St) (ρ : Rho) (F H : Hp) (x : V) (d : D) (ρb : Rho) (Q : L2.St → Hp → Prop), Slots B F σ ρ → Same F H → Rep B F x d → bl ρ d = some ρb → (∀ σb, Slots B F σb ρb → wipe σb vs = wipe σ vs → Q σb H) → g x (wipe σ vs) H Q
theorem set_none_slots {B : Bd} {F : Hp} {σ : L2.St} {ρ : Rho} {j : Nat} {v : V} {d : D} (s : Slots B F σ ρ) (r : Rep B F v d) : Slots B F ((σ.set j none).set j (some v)) (ρ.set j (some d)) := by
  rw [List.set_set]
  exact s.set r
theorem blk1 {B : Bd} (j : Nat) : Blk B (gName j) [j] (bl1 j) := ⟨fun σ ρ F H x d ρb Q s _ r e k => by
  cases e
  refine k _ (set_none_slots s r) ?_
  show (((σ.set j none).set j (some x))).set j none = σ.set j none
  rw [List.set_set, List.set_set]⟩
theorem blk3 {B : Bd} {j l m : Nat} (hjl : j ≠ l) (hjm : j ≠ m) (hlm : l ≠ m) : Blk B (gTup B.K 3 (gCons (gName j) (gCons (gName l) (gCons (gName m) gNil)))) [j, l, m] (bl3 j l m) := ⟨fun σ ρ F H x d ρb Q s fh r e k => by
  unfold bl3 at e
  split at e
  · cases e
    cases r with
    | tup q t =>
      cases t with
      | cons ra t => cases t with
        | cons rb t => cases t with
          | cons rc t =>
            cases t
            rename_i va vb vc
            have e1 : ((((wipe σ [j, l, m]).set j (some va)).set l (some vb)).set m (some vc)) = (((σ.set j (some va)).set l (some vb)).set m (some vc)) := by
              show (((((σ.set m none).set l none).set j none).set j (some va)).set l (some vb)).set m (some vc) = _
              rw [List.set_set, List.set_comm _ _ hjl.symm (l := σ.set m none), List.set_set, List.set_comm (l := σ) _ _ hjm.symm, List.set_comm (l := σ.set j (some va)) _ _ hlm.symm, List.set_set]
            refine ⟨_, _, rfl, sqt_mono fh q, rfl, _, _, rfl, _, _, rfl, _, _, rfl, rfl, ?_⟩
            have z := k _ (((s.set ra).set rb).set rc) ?_
            · rw [← e1] at z; exact z
            · show (((((σ.set j (some va)).set l (some vb)).set m (some vc)).set m none).set l none).set j none = ((σ.set m none).set l none).set j none
              rw [List.set_set, List.set_comm (l := σ.set j (some va)) _ _ hlm, List.set_set, List.set_comm (l := σ) _ _ hjm, List.set_comm (l := σ.set m none) _ _ hjl, List.set_set]
  · cases e⟩
theorem lc_sim {B : Bd} {g : TG} {vs : List Nat} {bl : Rho → D → Option Rho} {di : DI} {dt : DT} {de : DE} (hb : Blk B g vs bl) {Z : Zc} {F H : Hp} {σ : L2.St} {ρ : Rho} {μ : Mu} {Ψ : List D → Mu → Prop} {Q : VK} (w : WS B Z F H σ ρ μ)
    (h : di ρ μ fun xs μ1 => LcD (bl ρ) dt de xs μ1 Ψ) (fin : ∀ Dl ys μ' F' H', Same F F' → WS B Z F' H' σ ρ (mup μ' Dl (.lst ys)) → μ' Dl = none → Z.H Dl = none → Ψ ys μ' → Q (.ref Dl) H') :
    tLc (cI B di) g (cT B dt) (cE B de) vs σ H Q := by
  refine ⟨Z, F, ρ, μ, _, w, h, fun J xs μ1 F1 H1 s1 w1 wk h1 Dl hDl => ?_⟩
  obtain ⟨W, w0, step, done⟩ := h1
  have z0 : Z.H Dl = none := w1.fresh0 hDl
  refine ⟨fun i m H' => m = xs.length - i ∧ i ≤ xs.length ∧ ∃ F' acc μ', Same F1 F' ∧ WS B Z F' H' σ ρ (mup μ' Dl (.lst acc)) ∧ μ' Dl = none ∧ W i acc μ',
    ⟨_, rfl, Nat.zero_le _, F1, [], μ1, Same.refl F1, w1.newM (m := .lst []) hDl ⟨[], upd_same, .nil⟩, w1.freshM hDl, w0⟩, ?_⟩
  rintro i m H2 ⟨rfl, hi, F2, acc, μ2, s2, w2, n2, wi⟩
  by_cases hlt : i < xs.length
  · obtain ⟨go, yl⟩ := (wk Z F2 H2 σ ρ _ s2 w2 i).1 hlt
    refine .inr ⟨go, fun H' => ∃ F' acc μ', Same F1 F' ∧ WS B Z F' H' σ ρ (mup μ' Dl (.lst acc)) ∧ μ' Dl = none ∧ W (i + 1) acc μ', fun H' q => ⟨xs.length - (i + 1), by omega, rfl, hlt, q⟩, fun x H3 y => ?_⟩
    obtain ⟨F3, d, s3, w3, hd, rd, kp⟩ := yl x H3 y
    have st := step i d acc μ2 hd wi
    split at st
    · exact st.elim
    · rename_i ρb eb
      refine hb.go σ ρ F3 H3 x d ρb _ w3.slots w3.sub rd eb fun σb sb hw => ⟨hw, ?_⟩
      have v3 : WS B Z F3 H3 σ ρ μ2 := w3.less fun a o e => by
        have ne : a ≠ Dl := fun q => by rw [q, n2] at e; cases e
        rw [mup_ne ne]; exact e
      refine ⟨⟨F3, H3, dom μ2⟩, F3, ρb, μ2, _, v3.rebase.reslot sb, st, fun b μ4 F4 H4 s4 w4 h4 => ?_⟩
      cases b with
      | false =>
        obtain ⟨w5, n5, _⟩ := w3.back n2 (w4.reslot (w3.slots.mono s4))
        exact ⟨F4, acc, μ4, s2.trans (s3.trans s4), w5, n5, h4.2 rfl⟩
      | true =>
        show cE B de σb H4 fun y H5 => ∃ acc, H5 Dl = some (.lst acc) ∧ acc.length < sizeLine ∧ ∃ F' acc' μ', Same F1 F' ∧ WS B Z F' (upd H5 Dl (.lst (acc ++ [y]))) σ ρ (mup μ' Dl (.lst acc')) ∧ μ' Dl = none ∧ W (i + 1) acc' μ'
        refine ⟨⟨F3, H3, dom μ2⟩, F4, ρb, μ4, _, w4, h4.1 rfl, fun v dv μ5 F5 H5 s5 w5 r5 h5 => ?_⟩
        obtain ⟨_, hl, h5⟩ := h5.elim
        obtain ⟨w6, n6, _⟩ := w3.back n2 (w5.reslot (w3.slots.mono (s4.trans s5)))
        obtain ⟨f6, _, us, hu, ru⟩ := w6.muts Dl _ mup_same
        refine ⟨us, hu, by rw [ru.length]; exact hl, F5, acc ++ [dv], μ5, s2.trans (s3.trans (s4.trans s5)), ?_, n6, h5⟩
        have w7 := w6.mut (p := Dl) (o := .lst (us ++ [v])) (m' := .lst (acc ++ [dv])) mup_same ⟨_, upd_same, ru.append (.cons r5 .nil)⟩
        rw [mup_mup] at w7
        exact w7
  · have e : i = xs.length := by omega
    subst e
    exact .inl ⟨(wk Z F2 H2 σ ρ _ s2 w2 _).2 rfl, fin Dl acc μ2 F2 H2 (s1.trans s2) w2 n2 z0 (done acc μ2 wi)⟩
abbrev QTs (X : Cx) (ifs : List Expr) (dt : DT) : Prop := PTs X ifs (cT (Bof X) dt)
section
variable {X : Cx} {tg iter elt : Expr} {ifs : List Expr} {scope : Scope} {own : List (Str × Nat)} {pos : Pos} {di : DI} {g : TG} {dt : DT} {de : DE} {bl : Rho → D → Option Rho}
theorem pts_imp {t u : TT} (h : PTs X ifs t) (k : ∀ σ H Q, u σ H Q → t σ H Q) : PTs X ifs u := ⟨fun pins s σ H Q I hw => h.run pins s σ H Q I (k _ _ _ hw)⟩
theorem ts_nil : QTs X [] dYes := pts_imp pts_nil (by
  rintro σ H Q ⟨Z, F, ρ, μ, Φ, w, h, k⟩
  exact k true μ F H (Same.refl F) w h)
theorem ts_one {c : Expr} (h : QT X c dt) : QTs X [c] dt := pts_one h
theorem sim_lc {B : Bd} {vs : List Nat} (hb : Blk B g vs bl) : ∀ σ H Q, cE B (dLc di bl dt de) σ H Q → tLc (cI B di) g (cT B dt) (cE B de) vs σ H Q := by
  rintro σ H Q ⟨Z, F, ρ, μ, Φ, w, h, k⟩
  refine lc_sim hb w h fun Dl ys μ' F' H' s' w' n' z' h' => ?_
  obtain ⟨F2, s2, w2, r2⟩ := w'.freeze mup_same z'
  rw [mdel_mup n'] at w2
  exact k _ _ μ' F2 H' (s'.trans s2) w2 r2 h'
theorem sim_lcM {B : Bd} {vs : List Nat} (hb : Blk B g vs bl) : ∀ σ H Q, cE B (dLcM di bl dt de) σ H Q → tLc (cI B di) g (cT B dt) (cE B de) vs σ H Q := by
  rintro σ H Q ⟨Z, F, ρ, μ, Φ, w, h, k⟩
  exact lc_sim hb w h fun Dl ys μ' F' H' s' w' n' z' h' => k _ _ _ F' H' s' w' (.v _) (h' Dl n')
/-- a list comprehension, what it makes frozen -/
theorem q_lc (hb : Blk (Bof X) g (own.map (·.2)) bl) (hc : X.calm = true) (hN : X.N.Nodup) (ok : BlkOk X.N X.env.scope scope own) (hi : QI X tg iter di)
    (hg : ∀ (s : Shared) (H : Hp) (C : Addr) (cl : List (Str × Addr)) (fp : List Addr), PG (X.blk s H scope (compEnvC scope cl C X.env) fp) tg g) (ht : ∀ (s : Shared) (H : Hp) (C : Addr) (cl : List (Str × Addr)) (fp : List Addr), QTs (X.blk s H scope (compEnvC scope cl C X.env) fp) ifs dt)
    (he : ∀ (s : Shared) (H : Hp) (C : Addr) (cl : List (Str × Addr)) (fp : List Addr), QE (X.blk s H scope (compEnvC scope cl C X.env) fp) elt de) (hs : ∀ x, foldedSetIterable iter X.env x = pure x := by intro _; rfl) :
    QE X (.ListComp elt [⟨tg, iter, ifs, 0⟩] scope pos) (dLc di bl dt de) := pe_imp (pe_lc hc hN hi ok hg ht he hs) (sim_lc hb)
theorem q_lcM (hb : Blk (Bof X) g (own.map (·.2)) bl) (hc : X.calm = true) (hN : X.N.Nodup) (ok : BlkOk X.N X.env.scope scope own) (hi : QI X tg iter di)
    (hg : ∀ (s : Shared) (H : Hp) (C : Addr) (cl : List (Str × Addr)) (fp : List Addr), PG (X.blk s H scope (compEnvC scope cl C X.env) fp) tg g) (ht : ∀ (s : Shared) (H : Hp) (C : Addr) (cl : List (Str × Addr)) (fp : List Addr), QTs (X.blk s H scope (compEnvC scope cl C X.env) fp) ifs dt)
    (he : ∀ (s : Shared) (H : Hp) (C : Addr) (cl : List (Str × Addr)) (fp : List Addr), QE (X.blk s H scope (compEnvC scope cl C X.env) fp) elt de) (hs : ∀ x, foldedSetIterable iter X.env x = pure x := by intro _; rfl) :
    QE X (.ListComp elt [⟨tg, iter, ifs, 0⟩] scope pos) (dLcM di bl dt de) := pe_imp (pe_lc hc hN hi ok hg ht he hs) (sim_lcM hb)
/-- name = [..] on one line -/
theorem s_setLc (i : Nat) {y : Str} {py spos : Pos} (hb : Blk (Bof X) g (own.map (·.2)) bl) (hc : X.calm = true) (hN : X.N.Nodup) (ok : BlkOk X.N X.env.scope scope own) (hyl : X.env.scope.names.lookup y = some .local)
    (hsw : swapsWith (.ListComp elt [⟨tg, iter, ifs, 0⟩] scope pos) (some (.Name y py)) spos.line X.env = pure true) (hi : QI X tg iter di)
    (hg : ∀ (s : Shared) (H : Hp) (C : Addr) (cl : List (Str × Addr)) (fp : List Addr), PG (X.blk s H scope (compEnvC scope cl C X.env) fp) tg g) (ht : ∀ (s : Shared) (H : Hp) (C : Addr) (cl : List (Str × Addr)) (fp : List Addr), QTs (X.blk s H scope (compEnvC scope cl C X.env) fp) ifs dt)
    (he : ∀ (s : Shared) (H : Hp) (C : Addr) (cl : List (Str × Addr)) (fp : List Addr), QE (X.blk s H scope (compEnvC scope cl C X.env) fp) elt de) (hy : X.N[i]? = some y := by rfl) (hs : ∀ x, foldedSetIterable iter X.env x = pure x := by intro _; rfl) :
    QS X (.Assign [.Name y py] (.ListComp elt [⟨tg, iter, ifs, 0⟩] scope pos) spos) (dAsg (dLc di bl dt de) (dgName i)) := by
  refine ps_imp (ps_setLc (tt := cT (Bof X) dt) (te := cE (Bof X) de) hc hN hy hyl hsw hi ok hg ht he hs) fun E σ H h => ?_
  obtain ⟨Z, F, ρ, μ, Φ, w, h, k⟩ := sim_asg E σ H h
  exact sim_lc hb σ H _ ⟨Z, F, ρ, μ, Φ, w, h, fun v d μ1 F1 H1 s1 w1 r1 h1 => sim_gname _ _ _ _ (k v d μ1 F1 H1 s1 w1 r1 h1)⟩
theorem s_setLcM (i : Nat) {y : Str} {py spos : Pos} (hb : Blk (Bof X) g (own.map (·.2)) bl) (hc : X.calm = true) (hN : X.N.Nodup) (ok : BlkOk X.N X.env.scope scope own) (hyl : X.env.scope.names.lookup y = some .local)
    (hsw : swapsWith (.ListComp elt [⟨tg, iter, ifs, 0⟩] scope pos) (some (.Name y py)) spos.line X.env = pure true) (hi : QI X tg iter di)
    (hg : ∀ (s : Shared) (H : Hp) (C : Addr) (cl : List (Str × Addr)) (fp : List Addr), PG (X.blk s H scope (compEnvC scope cl C X.env) fp) tg g) (ht : ∀ (s : Shared) (H : Hp) (C : Addr) (cl : List (Str × Addr)) (fp : List Addr), QTs (X.blk s H scope (compEnvC scope cl C X.env) fp) ifs dt)
    (he : ∀ (s : Shared) (H : Hp) (C : Addr) (cl : List (Str × Addr)) (fp : List Addr), QE (X.blk s H scope (compEnvC scope cl C X.env) fp) elt de) (hy : X.N[i]? = some y := by rfl) (hs : ∀ x, foldedSetIterable iter X.env x = pure x := by intro _; rfl) :
    QS X (.Assign [.Name y py] (.ListComp elt [⟨tg, iter, ifs, 0⟩] scope pos) spos) (dAsg (dLcM di bl dt de) (dgName i)) := by
  refine ps_imp (ps_setLc (tt := cT (Bof X) dt) (te := cE (Bof X) de) hc hN hy hyl hsw hi ok hg ht he hs) fun E σ H h => ?_
  obtain ⟨Z, F, ρ, μ, Φ, w, h, k⟩ := sim_asg E σ H h
  exact sim_lcM hb σ H _ ⟨Z, F, ρ, μ, Φ, w, h, fun v d μ1 F1 H1 s1 w1 r1 h1 => sim_gname _ _ _ _ (k v d μ1 F1 H1 s1 w1 r1 h1)⟩
end
/-- where nothing but the list is made: all items pass, each gives f of it -/
theorem LcD.map {bl : D → Option Rho} {de : DE} {xs : List D} {μ : Mu} {Φ : List D → Mu → Prop} (f : D → D) (hl : xs.length ≤ 100000) (h : ∀ (i : Nat) (x : D), xs[i]? = some x → ∃ ρb, bl x = some ρb ∧ ∀ Ψ : DK, Ψ (f x) μ → de ρb μ Ψ) (k : Φ (xs.map f) μ) : LcD bl dYes de xs μ Φ := by
  refine ⟨fun i acc μ' => μ' = μ ∧ acc = (xs.take i).map f, ⟨rfl, rfl⟩, ?_, ?_⟩
  · rintro i x acc μ' hx ⟨rfl, rfl⟩
    obtain ⟨ρb, e, hd⟩ := h i x hx
    rw [e]
    refine ⟨fun _ => hd _ (lenOk.mk ?_ ⟨rfl, ?_⟩), fun z => nomatch z⟩
    · rw [List.length_map, List.length_take]; omega
    · rw [List.take_add_one, hx, List.map_append] <;> rfl
  · rintro ys μ' ⟨rfl, rfl⟩
    rw [List.take_length]; exact k
/-- some items pass -/
theorem LcD.filter {bl : D → Option Rho} {dt : DT} {de : DE} {xs : List D} {μ : Mu} {Φ : List D → Mu → Prop} (p : D → Bool) (f : D → D) (hl : xs.length ≤ 100000)
    (h : ∀ (i : Nat) (x : D), xs[i]? = some x → ∃ ρb, bl x = some ρb ∧ (∀ Ψ : Bool → Mu → Prop, Ψ (p x) μ → dt ρb μ Ψ) ∧ (p x = true → ∀ Ψ : DK, Ψ (f x) μ → de ρb μ Ψ)) (k : Φ ((xs.filter p).map f) μ) : LcD bl dt de xs μ Φ := by
  refine ⟨fun i acc μ' => μ' = μ ∧ acc = ((xs.take i).filter p).map f, ⟨rfl, rfl⟩, ?_, ?_⟩
  · rintro i x acc μ' hx ⟨rfl, rfl⟩
    obtain ⟨ρb, e, ht, hd⟩ := h i x hx
    rw [e]
    have en : (xs.take (i + 1)).filter p = (xs.take i).filter p ++ [x].filter p := by
      rw [List.take_add_one, hx, List.filter_append] <;> rfl
    refine ht _ ⟨fun hp => hd hp _ (lenOk.mk ?_ ⟨rfl, ?_⟩), fun hp => ⟨rfl, ?_⟩⟩
    · rw [List.length_map]
      refine Nat.le_trans (List.length_filter_le _ _) ?_
      rw [List.length_take]; omega
    · rw [en, List.map_append]
      simp [hp]
    · rw [en]
      simp [hp]
  · rintro ys μ' ⟨rfl, rfl⟩
    rw [List.take_length]; exact k
end K3
set_option Elab.async false
set_option linter.all false
set_option maxRecDepth 100000
set_option maxHeartbeats 4000000
/-! KI: instances: fields, methods, making; classmethods; a def by what the head tells (FunD). -/
namespace K3
open PySem PySem.Spec PyProof.Rows L2

theorem lookup_zip {α : Type} : ∀ {L : List Str} {vs : List α} {i : Nat} {f : Str} {v : α}, L.Nodup → L[i]? = some f → vs[i]? = some v → (L.zip vs).lookup f = some v
  | [], _, _, _, _, _, e, _ => by simp at e
  | _ :: _, [], _, _, _, _, _, e => by simp at e
  | g :: L, x :: vs, 0, f, v, n, e1, e2 => by
    simp at e1 e2; subst e1; subst e2
    simp [List.lookup]
  | g :: L, x :: vs, i + 1, f, v, n, e1, e2 => by
    have e1 : L[i]? = some f := by simpa using e1
    have e2 : vs[i]? = some v := by simpa using e2
    obtain ⟨n1, n2⟩ := List.nodup_cons.mp n
    have ne : (f == g) = false := beq_eq_false_iff_ne.mpr fun z => n1 (by rw [← z]; exact List.mem_of_getElem? e1)
    rw [List.zip_cons_cons, List.lookup_cons, ne]
    exact lookup_zip n2 e1 e2
theorem lookup_zip_none {α : Type} : ∀ {L : List Str} {vs : List α} {f : Str}, f ∉ L → (L.zip vs).lookup f = none
  | [], _, _, _ => by simp
  | _ :: _, [], _, _ => by simp
  | g :: L, x :: vs, f, h => by
    have ne : (f == g) = false := beq_eq_false_iff_ne.mpr fun z => h (by rw [z]; exact List.mem_cons_self)
    rw [List.zip_cons_cons, List.lookup_cons, ne]
    exact lookup_zip_none fun z => h (List.mem_cons_of_mem _ z)
theorem putF_new : ∀ {L : List Str} {vs : List V} {f : Str} {v : V}, f ∉ L → L.length = vs.length → putF f v (L.zip vs) = (L ++ [f]).zip (vs ++ [v])
  | [], [], _, _, _, _ => rfl
  | g :: L, x :: vs, f, v, h, hl => by
    have ne : ¬ g = f := fun z => h (by rw [z]; exact List.mem_cons_self)
    have ih := putF_new (L := L) (vs := vs) (f := f) (v := v) (fun z => h (List.mem_cons_of_mem _ z)) (by simpa using hl)
    show (if g = f then (g, v) :: L.zip vs else (g, x) :: putF f v (L.zip vs)) = _
    rw [if_neg ne, ih] <;> rfl
theorem putF_set : ∀ {L : List Str} {vs : List V} {i : Nat} {f : Str} {v : V}, L.Nodup → L.length = vs.length → L[i]? = some f → putF f v (L.zip vs) = L.zip (vs.set i v)
  | [], _, _, _, _, _, _, e => by simp at e
  | g :: L, [], _, _, _, _, hl, _ => by simp at hl
  | g :: L, x :: vs, 0, f, v, n, hl, e => by
    simp at e; subst e
    show (if g = g then (g, v) :: L.zip vs else _) = _
    rw [if_pos rfl] <;> rfl
  | g :: L, x :: vs, i + 1, f, v, n, hl, e => by
    have e : L[i]? = some f := by simpa using e
    obtain ⟨n1, n2⟩ := List.nodup_cons.mp n
    have ne : ¬ g = f := fun z => n1 (by rw [z]; exact List.mem_of_getElem? e)
    have ih := putF_set (L := L) (vs := vs) (i := i) (f := f) (v := v) n2 (by simpa using hl) e
    show (if g = f then (g, v) :: L.zip vs else (g, x) :: putF f v (L.zip vs)) = _
    rw [if_neg ne, ih] <;> rfl

/-! ### an instance that is read -/
def rdOb (d : D) (μ : Mu) (C : Addr) (L : List Str) (Ψ : List D → Prop) : Prop := match d with
  | .ob C' L' xs => C' = C ∧ L' = L ∧ Ψ xs
  | .v (.ref a) => ∃ xs, μ a = some (.ob C L xs) ∧ Ψ xs
  | _ => False
theorem rdOb_ok {B : Bd} {Z : Zc} {F H : Hp} {σ : L2.St} {ρ : Rho} {μ : Mu} {v : V} {d : D} {C : Addr} {L : List Str} {Ψ : List D → Prop} (w : WS B Z F H σ ρ μ) (r : Rep B F v d) (h : rdOb d μ C L Ψ) :
    ∃ a dx vs ds, v = .ref a ∧ H a = some (.ins C dx (L.zip vs)) ∧ L.Nodup ∧ L.length = vs.length ∧ Reps B F vs ds ∧ Ψ ds := by
  unfold rdOb at h
  split at h
  · obtain ⟨rfl, rfl, h⟩ := h
    cases r with
    | ob q n l t => exact ⟨_, _, _, _, rfl, w.sub _ _ q, n, l, t, h⟩
  · cases r
    obtain ⟨xs, e, h⟩ := h
    obtain ⟨_, _, dx, vs, q, n, l, t⟩ := w.muts _ _ e
    exact ⟨_, dx, vs, xs, rfl, q, n, l, t, h⟩
  · exact h.elim
def dFld (C : Addr) (L : List Str) (i : Nat) (de : DE) : DE := fun ρ μ Φ => de ρ μ fun x μ1 => rdOb x μ1 C L fun xs => match xs[i]? with | some d => Φ d μ1 | none => False
/-- o.f = e: a new attribute | one that is there -/
def dFldNew (C : Addr) (L : List Str) (f : Str) (dv de : DE) : DS := fun D ρ μ => dv ρ μ fun y μ1 => de ρ μ1 fun x μ2 => match x with | .v (.ref a) => ∃ xs, μ2 a = some (.ob C L xs) ∧ D.nx ρ (mup μ2 a (.ob C (L ++ [f]) (xs ++ [y]))) | _ => False
def dFldSet (C : Addr) (L : List Str) (i : Nat) (dv de : DE) : DS := fun D ρ μ => dv ρ μ fun y μ1 => de ρ μ1 fun x μ2 => match x with | .v (.ref a) => ∃ xs, μ2 a = some (.ob C L xs) ∧ D.nx ρ (mup μ2 a (.ob C L (xs.set i y))) | _ => False
section
variable {X : Cx} {e o value : Expr} {es : List Expr} {de dv : DE} {da : DA} {pos pos' p apos : Pos} {C : Addr} {L : List Str} {i k : Nat} {f m x : Str} {ps : List Str} {dsp : DSp}
theorem q_fld (C : Addr) (L : List Str) (i : Nat) (cl : Cls X.K C) (na : NoAttr X.K C f) (he : QE X e de) (hi : L[i]? = some f := by rfl) (hb : attributeBase e f X.env (eval e X.env) = eval e X.env := by rfl) : QE X (.Attribute e f pos) (dFld C L i de) := by
  refine pe_imp (pe_fld he hb) ?_
  rintro σ H Q ⟨Z, F, ρ, μ, Φ, w, h, k⟩
  refine ⟨Z, F, ρ, μ, _, w, h, fun v d μ1 F1 H1 s1 w1 r1 h1 => ?_⟩
  obtain ⟨a, dx, vs, ds, rfl, q, n, l, t, h1⟩ := rdOb_ok w1 r1 h1
  split at h1
  · rename_i d' e'
    obtain ⟨v', e2, r2⟩ := t.get e'
    exact ⟨a, C, dx, _, v', rfl, q, cl, na, lookup_zip n hi e2, k v' d' μ1 F1 H1 s1 w1 r2 h1⟩
  · exact h1.elim
theorem s_fldNew (C : Addr) (L : List Str) (cl : Cls X.K C) (na : NoAttr X.K C f) (hf : f ∉ L) (hl : L.length < 1000) (hv : QE X value dv) (he : QE X o de) (hs : swapsWith value (some (.Attribute o f pos')) pos.line X.env = pure false := by rfl) :
    QS X (.Assign [.Attribute o f pos'] value pos) (dFldNew C L f dv de) := by
  refine ps_imp (ps_fld he hv hs) ?_
  rintro E σ H ⟨Z, F, ρ, μ, Dn, w, h, k⟩
  refine ⟨Z, F, ρ, μ, _, w, h, fun v d μ1 F1 H1 s1 w1 r1 h1 => ?_⟩
  refine ⟨Z, F1, ρ, μ1, _, w1, h1, fun v2 d2 μ2 F2 H2 s2 w2 r2 h2 => ?_⟩
  split at h2
  · rename_i a
    cases r2
    obtain ⟨xs, e, h2⟩ := h2
    obtain ⟨_, _, dx, vs, q, n, l, t⟩ := w2.muts _ _ e
    refine ⟨a, C, dx, _, rfl, q, cl, na, ?_, ?_⟩
    · rw [List.length_zip, ← l, Nat.min_self]; exact hl
    · rw [putF_new hf l]
      refine k.nx σ ρ _ F2 _ (s1.trans s2) (w2.mut (m' := .ob C (L ++ [f]) (xs ++ [d])) e ⟨dx, vs ++ [v], upd_same, ?_, by simp [l], t.append (.cons (r1.mono s2) .nil)⟩) h2
      rw [List.nodup_append]
      exact ⟨n, by simp, fun a ha b hb z => hf (by simp at hb; rw [← hb, ← z]; exact ha)⟩
  · exact h2.elim
theorem s_fldSet (C : Addr) (L : List Str) (i : Nat) (cl : Cls X.K C) (na : NoAttr X.K C f) (hl : L.length < 1000) (hv : QE X value dv) (he : QE X o de) (hi : L[i]? = some f := by rfl) (hs : swapsWith value (some (.Attribute o f pos')) pos.line X.env = pure false := by rfl) :
    QS X (.Assign [.Attribute o f pos'] value pos) (dFldSet C L i dv de) := by
  refine ps_imp (ps_fld he hv hs) ?_
  rintro E σ H ⟨Z, F, ρ, μ, Dn, w, h, k⟩
  refine ⟨Z, F, ρ, μ, _, w, h, fun v d μ1 F1 H1 s1 w1 r1 h1 => ?_⟩
  refine ⟨Z, F1, ρ, μ1, _, w1, h1, fun v2 d2 μ2 F2 H2 s2 w2 r2 h2 => ?_⟩
  split at h2
  · rename_i a
    cases r2
    obtain ⟨xs, e, h2⟩ := h2
    obtain ⟨_, _, dx, vs, q, n, l, t⟩ := w2.muts _ _ e
    refine ⟨a, C, dx, _, rfl, q, cl, na, ?_, ?_⟩
    · rw [List.length_zip, ← l, Nat.min_self]; exact hl
    · rw [putF_set n l hi]
      exact k.nx σ ρ _ F2 _ (s1.trans s2) (w2.mut (m' := .ob C L (xs.set i d)) e ⟨dx, vs.set i v, upd_same, n, by simp [l], t.set (r1.mono s2) i⟩) h2
  · exact h2.elim

/-! ### methods -/
def MethG (P : Program) (w : World) (K : PySem.W.Frag) (mg : Str → Option Value) (base : Heap) (C : Addr) (m : Str) (ps : List Str) (k : Nat) (dsp : DSp) : Prop :=
  ∃ f fd, Meth K C m f ∧ Binds K fd ps [] ∧ FnOk P w K mg base CX0 k f fd ps (spOf ⟨P, w, K⟩ dsp)
def dMeth (C : Addr) (L : List Str) (dsp : DSp) (de : DE) (da : DA) : DE := fun ρ μ Φ => de ρ μ fun x μ1 => rdOb x μ1 C L fun _ => da ρ μ1 fun xs μ2 => dsp (x :: xs) μ2 Φ
theorem sim_meth {B : Bd} {E : XK} (hm : m ∉ L) : ∀ σ H Q, cE B (dMeth C L dsp de da) σ H Q → tMeth C m (spOf B dsp) [] E (cE B de) (cA B da) σ H Q := by
  rintro σ H Q ⟨Z, F, ρ, μ, Φ, w, h, k⟩
  refine ⟨Z, F, ρ, μ, _, w, h, fun v d μ1 F1 H1 s1 w1 r1 h1 => ?_⟩
  obtain ⟨a, dx, vs, ds, rfl, q, n, l, t, h1⟩ := rdOb_ok w1 r1 h1
  refine ⟨a, dx, _, rfl, q, lookup_zip_none hm, Z, F1, ρ, μ1, _, w1, h1, fun vs2 ds2 μ2 F2 H2 s2 w2 r2 h2 => ?_⟩
  show spOf B dsp (.ref a :: (vs2 ++ [])) H2 Q E
  rw [List.append_nil]
  exact spOf_at w2 (.cons (r1.mono s2) r2) h2 (k.mono (s1.trans s2))
theorem q_meth (C : Addr) (L : List Str) {pl : Sem Bool} (he : QE X o de) (cl : Cls X.K C) (G : MethG X.prog X.w X.K X.mg X.base C m ps k dsp) (hr : Room k X.A) (hm : m ∉ L) (ha : QA X (e :: es) da)
    (hst : starEach (e :: es) X.env = (false, eval e X.env) :: starEach es X.env := by rfl) (hpl : (backTo pos (starEach es X.env)).any (·.1) = false := by rfl)
    (ht : eval (.Call (.Attribute o m apos) (e :: es) [] pos) X.env = (do
      let ov ← eval o X.env
      standAt apos.atName
      let (f, first) ← holding [ov] (getMethod ov m pl)
      callWith pos f first (backTo pos (starEach (e :: es) X.env)) (backToKw pos (keywordEach [] X.env))) := by rfl) : QE X (.Call (.Attribute o m apos) (e :: es) [] pos) (dMeth C L dsp de da) := by
  obtain ⟨f, fd, M, hb, F⟩ := G
  exact pe_imp (pe_meth (E := E0) he cl M F hr hb .nil pass0 ha hst hpl ht) (sim_meth hm)
theorem q_meth0 (C : Addr) (L : List Str) {pl : Sem Bool} (he : QE X o de) (cl : Cls X.K C) (G : MethG X.prog X.w X.K X.mg X.base C m ps k dsp) (hr : Room k X.A) (hm : m ∉ L)
    (ht : eval (.Call (.Attribute o m apos) [] [] pos) X.env = (do
      let ov ← eval o X.env
      standAt apos.atName
      let (f, first) ← holding [ov] (getMethod ov m pl)
      callWith pos f first (backTo pos (starEach [] X.env)) (backToKw pos (keywordEach [] X.env))) := by rfl) : QE X (.Call (.Attribute o m apos) [] [] pos) (dMeth C L dsp de dNil) := by
  obtain ⟨f, fd, M, hb, F⟩ := G
  refine pe_imp (pe_meth0 (E := E0) he cl M F hr hb .nil pass0 ht) fun σ H Q h => ?_
  obtain ⟨Z, F, ρ, μ, Φ, w, h, k⟩ := h
  refine ⟨Z, F, ρ, μ, _, w, h, fun v d μ1 F1 H1 s1 w1 r1 h1 => ?_⟩
  obtain ⟨a, dx, vs, ds, rfl, q, n, l, t, h1⟩ := rdOb_ok w1 r1 h1
  exact ⟨a, dx, _, rfl, q, lookup_zip_none hm, spOf_at (E := E0) w1 (.cons r1 .nil) h1 (k.mono s1)⟩

/-! ### making -/
def MakeG (P : Program) (w : World) (K : PySem.W.Frag) (mg : Str → Option Value) (base : Heap) (C : Addr) (ps : List Str) (k : Nat) (dsp : DSp) : Prop :=
  ∃ f fd, Mk K C f ∧ Binds K fd ps [] ∧ FnOk P w K mg base CX0 k f fd ps (spOf ⟨P, w, K⟩ dsp)
/-- a new instance that may change | that does not change any more behind its making -/
def dMake (C : Addr) (dsp : DSp) (da : DA) : DE := fun ρ μ Φ => da ρ μ fun xs μ1 => ∀ p, μ1 p = none → dsp (dR p :: xs) (mup μ1 p (.ob C [] [])) fun d μ2 => d = dN ∧ Φ (dR p) μ2
def dMakeF (C : Addr) (dsp : DSp) (da : DA) : DE := fun ρ μ Φ => da ρ μ fun xs μ1 => ∀ p, μ1 p = none → dsp (dR p :: xs) (mup μ1 p (.ob C [] [])) fun d μ2 => d = dN ∧ ∃ m, μ2 p = some m ∧ Φ m.frz (mdel μ2 p)
theorem sim_make {B : Bd} {E : XK} : ∀ σ H Q, cE B (dMake C dsp da) σ H Q → tMake C (spOf B dsp) [] E (cA B da) σ H Q := by
  rintro σ H Q ⟨Z, F, ρ, μ, Φ, w, h, k⟩
  refine ⟨Z, F, ρ, μ, _, w, h, fun vs ds μ1 F1 H1 s1 w1 r1 h1 => fun x dx hx hd ne => ?_⟩
  have w2 := w1.newG (o := .own x) hd
  have hx2 : upd H1 dx (.own x) x = none := by rw [upd_ne ne.symm]; exact hx
  have w3 := w2.newM (o := .ins C dx []) (m := .ob C [] []) hx2 ⟨dx, [], upd_same, List.nodup_nil, rfl, .nil⟩
  show spOf B dsp (.ref x :: (vs ++ [])) _ _ E
  rw [List.append_nil]
  refine spOf_at w3 (.cons (.v _) r1) (h1 x (w1.freshM hx)) fun v d μ' F' H' s' w' r' h' => ?_
  obtain ⟨rfl, h'⟩ := h'
  cases r'
  exact ⟨rfl, k _ _ μ' F' H' (s1.trans s') w' (.v _) h'⟩
theorem sim_makeF {B : Bd} {E : XK} : ∀ σ H Q, cE B (dMakeF C dsp da) σ H Q → tMake C (spOf B dsp) [] E (cA B da) σ H Q := by
  rintro σ H Q ⟨Z, F, ρ, μ, Φ, w, h, k⟩
  refine ⟨Z, F, ρ, μ, _, w, h, fun vs ds μ1 F1 H1 s1 w1 r1 h1 => fun x dx hx hd ne => ?_⟩
  have w2 := w1.newG (o := .own x) hd
  have hx2 : upd H1 dx (.own x) x = none := by rw [upd_ne ne.symm]; exact hx
  have w3 := w2.newM (o := .ins C dx []) (m := .ob C [] []) hx2 ⟨dx, [], upd_same, List.nodup_nil, rfl, .nil⟩
  show spOf B dsp (.ref x :: (vs ++ [])) _ _ E
  rw [List.append_nil]
  refine spOf_at w3 (.cons (.v _) r1) (h1 x (w1.freshM hx)) fun v d μ' F' H' s' w' r' h' => ?_
  obtain ⟨rfl, m, e, h'⟩ := h'
  cases r'
  obtain ⟨F2, s2, w4, r4⟩ := w'.freeze e (w1.fresh0 hx)
  exact ⟨rfl, k _ _ _ F2 H' (s1.trans (s'.trans s2)) w4 r4 h'⟩
theorem q_make (G : MakeG X.prog X.w X.K X.mg X.base C ps k dsp) (hr : Room (k + 1) X.A) (hg : Gl X x) (hm : X.mg x = some (.ref C)) (ha : QA X (e :: es) da) (hdb : (x == ("__debug__" : Str)) = false := by decide)
    (he : starEach (e :: es) X.env = (false, eval e X.env) :: starEach es X.env := by rfl) (hpl : (backTo pos (starEach es X.env)).any (·.1) = false := by rfl) : QE X (.Call (.Name x p) (e :: es) [] pos) (dMake C dsp da) := by
  obtain ⟨f, fd, M, hb, F⟩ := G
  exact pe_imp (pe_make (E := E0) M F hr hg hm hb .nil pass0 ha hdb he hpl) sim_make
theorem q_makeF (G : MakeG X.prog X.w X.K X.mg X.base C ps k dsp) (hr : Room (k + 1) X.A) (hg : Gl X x) (hm : X.mg x = some (.ref C)) (ha : QA X (e :: es) da) (hdb : (x == ("__debug__" : Str)) = false := by decide)
    (he : starEach (e :: es) X.env = (false, eval e X.env) :: starEach es X.env := by rfl) (hpl : (backTo pos (starEach es X.env)).any (·.1) = false := by rfl) : QE X (.Call (.Name x p) (e :: es) [] pos) (dMakeF C dsp da) := by
  obtain ⟨f, fd, M, hb, F⟩ := G
  exact pe_imp (pe_make (E := E0) M F hr hg hm hb .nil pass0 ha hdb he hpl) sim_makeF
/-- the class stands in a slot -/
def dMakeLF (j : Nat) (C : Addr) (dsp : DSp) (da : DA) : DE := fun ρ μ Φ => (∃ d, ρ[j]? = some (some d) ∧ d = dR C) ∧ dMakeF C dsp da ρ μ Φ
theorem q_makeLF (j : Nat) (G : MakeG X.prog X.w X.K X.mg X.base C ps k dsp) (hr : Room (k + 1) X.A) (ha : QA X (e :: es) da) (hN : X.N[j]? = some x := by rfl) (hv : Vis X.env.scope x := by first | exact Or.inl rfl | exact Or.inr (Or.inl rfl) | exact Or.inr (Or.inr rfl)) (hdb : (x == ("__debug__" : Str)) = false := by decide) (hcd : (x == ("__classdict__" : Str)) = false := by decide)
    (he : starEach (e :: es) X.env = (false, eval e X.env) :: starEach es X.env := by rfl) (hpl : (backTo pos (starEach es X.env)).any (·.1) = false := by rfl) : QE X (.Call (.Name x p) (e :: es) [] pos) (dMakeLF j C dsp da) := by
  obtain ⟨f, fd, M, hb, F⟩ := G
  refine ⟨fun pins s σ H Q I h => ?_⟩
  obtain ⟨Z, F0, ρ, μ, Φ, w, ⟨⟨d, e1, ed⟩, h⟩, k⟩ := h
  subst ed
  obtain ⟨v, e2, r⟩ := w.slots.at_ j _ e1
  cases r
  have key : tMake C (spOf (Bof X) dsp) [] E0 (cA (Bof X) da) σ H Q := sim_makeF σ H Q ⟨Z, F0, ρ, μ, Φ, w, h, k⟩
  refine wpAny_Call_Name_kw (thn ((pe_var (pos := p) hN hv hdb hcd).run pins s σ H (fun v H1 => v = .ref C ∧ H1 = H) I ⟨.ref C, e2, rfl, rfl⟩) fun u s1 ⟨v, H1, I1, r1, q1⟩ => ?_)
  obtain ⟨rfl, rfl⟩ := q1
  cases r1
  refine PySem.W.callWith_K (h₀ := X.base) I.ok.mod.kin M.kp (thn (ha.run pos pins s1 σ _ _ I1 key) fun us s2 ⟨vs, H2, I2, r2, q2⟩ => ⟨I2.kIn, ?_⟩) he hpl
  exact run_make M F hr hb .nil pass0 I2 r2 q2

/-! ### the call of an instance; a classmethod by its class -/
theorem fnR_of {P : Program} {w : World} {K : PySem.W.Frag} {mg : Str → Option Value} {base : Heap} {f : Addr} {fd : FuncData} {sp : Sp} (hb : Binds K fd ps []) (F : FnOk P w K mg base CX0 k f fd ps sp) : FnR P w K mg base CX0 k f sp := fun A outer s H us vs Q E hr e0 r h => by
  have hl : us.length = ps.length := by rw [← r.length]; exact F.len _ _ _ _ h
  have kin : K.In s.heap := e0.mod.kin.keeps fun b o q => (e0.bs b o q).1
  refine F.run A outer s H ⟨us, []⟩ us vs Q E hr e0 ?_ r h
  have z := hb s us kin (by rw [List.append_nil]; exact hl)
  rwa [List.append_nil] at z
def CallG (P : Program) (w : World) (K : PySem.W.Frag) (mg : Str → Option Value) (base : Heap) (C : Addr) (ps : List Str) (k : Nat) (dsp : DSp) : Prop :=
  ∃ f fd, StX.CallO K C f ∧ Binds K fd ps [] ∧ FnOk P w K mg base CX0 k f fd ps (spOf ⟨P, w, K⟩ dsp)
/-- f(..), f a frozen instance -/
def dCallO (C : Addr) (dsp : DSp) (de : DE) (da : DA) : DE := fun ρ μ Φ => de ρ μ fun x μ1 => match x with | .ob C' L xs => C' = C ∧ da ρ μ1 fun ys μ2 => dsp (.ob C' L xs :: ys) μ2 Φ | _ => False
theorem q_callO {fe : Expr} {df : DE} (C : Addr) (hf : QE X fe df) (G : CallG X.prog X.w X.K X.mg X.base C ps k dsp) (hr : Room k X.A) (ha : QA X (e :: es) da)
    (ht : eval (.Call fe (e :: es) [] pos) X.env = (do callWith pos (← eval fe X.env) [] (backTo pos (starEach (e :: es) X.env)) (backToKw pos (keywordEach [] X.env))) := by rfl)
    (he : starEach (e :: es) X.env = (false, eval e X.env) :: starEach es X.env := by rfl) (hpl : (backTo pos (starEach es X.env)).any (·.1) = false := by rfl) : QE X (.Call fe (e :: es) [] pos) (dCallO C dsp df da) := by
  obtain ⟨f, fd, M, hb, F⟩ := G
  refine pe_imp (StX.pe_callO (E := E0) hf M (fnR_of hb F) hr pass0 ha ht he hpl) ?_
  rintro σ H Q ⟨Z, F0, ρ, μ, Φ, w, h, k⟩
  refine ⟨Z, F0, ρ, μ, _, w, h, fun v d μ1 F1 H1 s1 w1 r1 h1 => ?_⟩
  split at h1
  · obtain ⟨rfl, h1⟩ := h1
    cases r1 with
    | ob q n l t =>
      refine ⟨_, rfl, Z, F1, ρ, μ1, _, w1, h1, fun vs ds μ2 F2 H2 s2 w2 r2 h2 => ?_⟩
      exact ⟨.inr ⟨_, _, w2.sub _ _ (s2 _ _ q)⟩, spOf_at (E := E0) w2 (.cons ((Rep.ob q n l t).mono s2) r2) h2 (k.mono (s1.trans s2))⟩
  · exact h1.elim
def CMethG (P : Program) (w : World) (K : PySem.W.Frag) (mg : Str → Option Value) (base : Heap) (C : Addr) (mc : Value) (m : Str) (ps : List Str) (k : Nat) (dsp : DSp) : Prop :=
  ∃ q f fd, ClX.CRead K C mc ∧ ClX.CMet K C mc m q f ∧ Binds K fd ps [] ∧ FnOk P w K mg base CX0 k f fd ps (spOf ⟨P, w, K⟩ dsp)
def dCMeth (C : Addr) (dsp : DSp) (de : DE) (da : DA) : DE := fun ρ μ Φ => de ρ μ fun x μ1 => x = dR C ∧ da ρ μ1 fun xs μ2 => dsp (dR C :: xs) μ2 Φ
theorem q_cmeth {mc : Value} {pl : Sem Bool} (C : Addr) (ho : QE X o de) (G : CMethG X.prog X.w X.K X.mg X.base C mc m ps k dsp) (hr : Room k X.A) (ha : QA X (e :: es) da)
    (hst : starEach (e :: es) X.env = (false, eval e X.env) :: starEach es X.env := by rfl) (hpl : (backTo pos (starEach es X.env)).any (·.1) = false := by rfl)
    (ht : eval (.Call (.Attribute o m apos) (e :: es) [] pos) X.env = (do
      let ov ← eval o X.env
      standAt apos.atName
      let (f, first) ← holding [ov] (getMethod ov m pl)
      callWith pos f first (backTo pos (starEach (e :: es) X.env)) (backToKw pos (keywordEach [] X.env))) := by rfl) : QE X (.Call (.Attribute o m apos) (e :: es) [] pos) (dCMeth C dsp de da) := by
  obtain ⟨q, f, fd, cr, cm, hb, F⟩ := G
  refine pe_imp (ClX.pe_cmeth (E := E0) ho cr cm (fnR_of hb F) hr pass0 ha hst hpl ht) ?_
  rintro σ H Q ⟨Z, F0, ρ, μ, Φ, w, h, k⟩
  refine ⟨Z, F0, ρ, μ, _, w, h, fun v d μ1 F1 H1 s1 w1 r1 h1 => ?_⟩
  obtain ⟨rfl, h1⟩ := h1
  cases r1
  refine ⟨rfl, Z, F1, ρ, μ1, _, w1, h1, fun vs ds μ2 F2 H2 s2 w2 r2 h2 => ?_⟩
  exact spOf_at (E := E0) w2 (.cons (.v _) r2) h2 (k.mono (s1.trans s2))
end

/-! ### a def's promise from its body -/
/-- a def that the top has left: its row's pieces, its defaults -/
abbrev DefAt (K : PySem.W.Frag) (x qual : Str) (st : Stmt) (dvs : List V) (f : Addr) (fd : FuncData) : Prop := FunD K x qual (defArgs st) (defBody st) (defScope st) dvs [] f fd
theorem fnOk_of {P : Program} {w : World} {K : PySem.W.Frag} {mg : Str → Option Value} {base : Heap} {x qual : Str} {st : Stmt} {dvs : List V} {f : Addr} {fd : FuncData} {N ps : List Str} {k : Nat} {dsp : DSp} (F : DefAt K x qual st dvs f fd) (S : FnScope N ps (defScope st))
    (len : ∀ ds μ Φ, dsp ds μ Φ → ds.length = ps.length)
    (hb : ∀ (cdv : Value) (A : Around) (outer : List Env) (s : Shared) (H : Hp) (E : XK), Room k (A.deeper (envOfC qual (defScope st) s.heap.objs.size f cdv)) →
      ∃ ds, QSs (cxOf CX0 P w K mg base N qual (defScope st) f cdv A outer s H E).nox (defBody st) ds ∧ ∀ args μ Φ, dsp args μ Φ → ds (endD μ Φ) (startD N.length args) μ) : FnOk P w K mg base CX0 (k + 1) f fd ps (spOf ⟨P, w, K⟩ dsp) := by
  refine F.ok S (fun vs H Q E h => ?_) fun cdv A outer s H vs Q E hr h => ?_
  · obtain ⟨F, μ, args, Φ, w, r, h, k⟩ := h
    rw [r.length]
    exact len _ _ _ h
  · obtain ⟨ds, h1, h2⟩ := hb cdv A outer s H E hr
    exact ⟨_, PSs.nox h1, body_ok h h2⟩
end K3
set_option Elab.async false
set_option linter.all false
set_option maxRecDepth 100000
set_option maxHeartbeats 4000000
/-! KS: alternatives, ghost steps, builtins by data, subscripts, slices, in, methods. -/
namespace K3
open PySem PySem.Spec PyProof.Rows L2

/-! ### alternatives -/
def dAlt (a b : DE) : DE := fun ρ μ Φ => a ρ μ Φ ∨ b ρ μ Φ
def tAlt (a b : DT) : DT := fun ρ μ Φ => a ρ μ Φ ∨ b ρ μ Φ
def sAlt (a b : DS) : DS := fun D ρ μ => a D ρ μ ∨ b D ρ μ
def iAlt (a b : DI) : DI := fun ρ μ Ψ => a ρ μ Ψ ∨ b ρ μ Ψ
section
variable {X : Cx} {e tg : Expr} {rest : List Stmt} {a b : DE} {t u : DT} {s1 s2 : DS} {i1 i2 : DI}
theorem q_alt (h1 : QE X e a) (h2 : QE X e b) : QE X e (dAlt a b) := ⟨fun pins s σ H Q I hw => by
  obtain ⟨Z, F, ρ, μ, Φ, w, h | h, k⟩ := hw
  · exact h1.run pins s σ H Q I ⟨Z, F, ρ, μ, Φ, w, h, k⟩
  · exact h2.run pins s σ H Q I ⟨Z, F, ρ, μ, Φ, w, h, k⟩⟩
theorem t_alt (h1 : QT X e t) (h2 : QT X e u) : QT X e (tAlt t u) := ⟨fun pins s σ H Q I hw => by
  obtain ⟨Z, F, ρ, μ, Φ, w, h | h, k⟩ := hw
  · exact h1.run pins s σ H Q I ⟨Z, F, ρ, μ, Φ, w, h, k⟩
  · exact h2.run pins s σ H Q I ⟨Z, F, ρ, μ, Φ, w, h, k⟩⟩
theorem ss_alt (h1 : QSs X rest s1) (h2 : QSs X rest s2) : QSs X rest (sAlt s1 s2) := ⟨fun pins s σ H D I hw => by
  obtain ⟨Z, F, ρ, μ, Φ, w, h | h, k⟩ := hw
  · exact h1.run pins s σ H D I ⟨Z, F, ρ, μ, Φ, w, h, k⟩
  · exact h2.run pins s σ H D I ⟨Z, F, ρ, μ, Φ, w, h, k⟩⟩
theorem i_alt (h1 : QI X tg e i1) (h2 : QI X tg e i2) : QI X tg e (iAlt i1 i2) := ⟨fun pins s σ H R I hw => by
  obtain ⟨Z, F, ρ, μ, Φ, w, h | h, k⟩ := hw
  · exact h1.run pins s σ H R I ⟨Z, F, ρ, μ, Φ, w, h, k⟩
  · exact h2.run pins s σ H R I ⟨Z, F, ρ, μ, Φ, w, h, k⟩⟩
/-- a list (frozen) or a tuple is walked -/
theorem i_seq {de : DE} (he : QE X e de) : QI X tg e (iAlt (diL de) (diT de)) := i_alt (i_list he) (i_tup he)
end

/-! ### a ghost step: a list that stands in a dict is frozen there -/
theorem Repk.setD {B : Bd} {F : Hp} {v : V} {d : D} : ∀ {xs : List (List Leaf × Addr × Value)} {kvs : List (List Leaf × D)} {j : Nat} {k : List Leaf} {l : Addr}, Repk B F xs kvs → kvs[j]? = some (k, dR l) → Rep B F (.ref l) d → Repk B F xs (kvs.set j (k, d))
  | _, _, _, _, _, .nil, e, _ => by simp at e
  | _, _, 0, k, l, .cons q r h t, e, r2 => by
    simp at e
    obtain ⟨rfl, rfl⟩ := e
    cases h
    exact .cons q r r2 t
  | _, _, j + 1, k, l, .cons q r h t, e, r2 => .cons q r h (Repk.setD (v := v) t (by simpa using e) r2)
theorem WS.frzIn {B : Bd} {Z : Zc} {F H : Hp} {σ : L2.St} {ρ : Rho} {μ : Mu} {a l : Addr} {m : MO} {kvs : List (List Leaf × D)} {j : Nat} {k : List Leaf} (w : WS B Z F H σ ρ μ) (ha : μ a = some (.dct kvs)) (hj : kvs[j]? = some (k, dR l)) (hl : μ l = some m) (ne : l ≠ a) (z : Z.H l = none) :
    ∃ F', Same F F' ∧ WS B Z F' H σ ρ (mup (mdel μ l) a (.dct (kvs.set j (k, m.frz)))) := by
  obtain ⟨F', s, w', r⟩ := w.freeze hl z
  refine ⟨F', s, w'.sub, w'.grow, w'.keep, w'.there, w'.new, w'.slots, fun b o e => ?_⟩
  by_cases q : b = a
  · subst q
    rw [mup_same] at e; cases e
    obtain ⟨m1, m2, es, ep, xs, h1, h2, h3⟩ := w'.muts b (.dct kvs) (by rw [mdel_ne ne.symm]; exact ha)
    exact ⟨m1, m2, es, ep, xs, h1, h2, h3.setD (v := .ref l) hj r⟩
  · rw [mup_ne q] at e
    exact w'.muts b o e
def dFrzIn (i : Nat) (ds : DS) : DS := fun D ρ μ => ∃ a kvs j k l m, ρ[i]? = some (some (dR a)) ∧ μ a = some (.dct kvs) ∧ kvs[j]? = some (k, dR l) ∧ μ l = some m ∧ l ≠ a ∧ D.m0 l = none ∧ ds D ρ (mup (mdel μ l) a (.dct (kvs.set j (k, m.frz))))
theorem ss_frzIn (i : Nat) {X : Cx} {rest : List Stmt} {t : DS} (h : QSs X rest t) : QSs X rest (dFrzIn i t) := by
  refine pss_imp h ?_
  rintro E σ H ⟨Z, F, ρ, μ, Dn, w, ⟨a, kvs, j, k, l, m, _, ha, hj, hl, ne, e3, h⟩, kk⟩
  obtain ⟨F2, s2, w2⟩ := w.frzIn ha hj hl ne (w.loc hl fun z => kk.loc l z e3)
  exact ⟨Z, F2, ρ, _, Dn, w2, h, kk.mono s2⟩

/-! ### builtins -/
def dCB (dr : DRL) (da : DA) : DE := fun ρ μ Φ => da ρ μ fun xs μ1 => dr xs μ1 Φ
theorem sim_CB {B : Bd} {r : List V → Hp → VK → Prop} {dr : DRL} {da : DA} (s : SimRL B r dr) : ∀ σ H Q, cE B (dCB dr da) σ H Q → tCB r (cA B da) σ H Q := by
  rintro σ H Q ⟨Z, F, ρ, μ, Φ, w, h, k⟩
  refine ⟨Z, F, ρ, μ, _, w, h, fun vs ds μ1 F1 H1 s1 w1 r1 h1 => ?_⟩
  exact s Z F1 H1 σ ρ μ1 Φ vs ds Q w1 r1 h1 (k.mono s1)
section
variable {X : Cx} {x : Str} {p pos : Pos} {e : Expr} {es : List Expr} {da : DA} {id T : String} {r : List V → Hp → VK → Prop} {dr : DRL}
theorem q_cb (hc : CallR X (.builtin id) r) (s : SimRL (Bof X) r dr) (hg : Gl X x) (hm : X.mg x = none) (hv : bootBuiltins x = some (.builtin id)) (ha : QA X (e :: es) da) (hn : x ≠ "__name__" := by decide) (hdb : (x == ("__debug__" : Str)) = false := by decide)
    (he : starEach (e :: es) X.env = (false, eval e X.env) :: starEach es X.env := by rfl) (hpl : (backTo pos (starEach es X.env)).any (·.1) = false := by rfl) : QE X (.Call (.Name x p) (e :: es) [] pos) (dCB dr da) :=
  pe_imp (pe_callB hc hg hm hv ha hn hdb he hpl) (sim_CB s)
theorem q_cty (hc : CallR X (.type T) r) (s : SimRL (Bof X) r dr) (hg : Gl X x) (hm : X.mg x = none) (hv : bootBuiltins x = some (.type T)) (ha : QA X (e :: es) da) (hn : x ≠ "__name__" := by decide) (hdb : (x == ("__debug__" : Str)) = false := by decide)
    (he : starEach (e :: es) X.env = (false, eval e X.env) :: starEach es X.env := by rfl) (hpl : (backTo pos (starEach es X.env)).any (·.1) = false := by rfl) : QE X (.Call (.Name x p) (e :: es) [] pos) (dCB dr da) :=
  pe_imp (pe_callTy hc hg hm hv ha hn hdb he hpl) (sim_CB s)
end
def dr1 (f : D → Mu → DK → Prop) : DRL := fun xs μ Φ => match xs with | [x] => f x μ Φ | _ => False
def dr2 (f : D → D → Mu → DK → Prop) : DRL := fun xs μ Φ => match xs with | [x, y] => f x y μ Φ | _ => False
theorem sim_dr1 {B : Bd} {r : List V → Hp → VK → Prop} {f : D → Mu → DK → Prop} (h : ∀ (Z : Zc) (F H : Hp) (σ : L2.St) (ρ : Rho) (μ : Mu) (Φ : DK) (v : V) (d : D) (Q : VK), WS B Z F H σ ρ μ → Rep B F v d → f d μ Φ → Kt B Z σ ρ F Φ Q → r [v] H Q) : SimRL B r (dr1 f) := by
  intro Z F H σ ρ μ Φ xs ds Q w rs h1 k
  unfold dr1 at h1
  split at h1
  · cases rs with
    | cons r1 t => cases t; exact h Z F H σ ρ μ Φ _ _ Q w r1 h1 k
  · exact h1.elim
theorem sim_dr2 {B : Bd} {r : List V → Hp → VK → Prop} {f : D → D → Mu → DK → Prop} (h : ∀ (Z : Zc) (F H : Hp) (σ : L2.St) (ρ : Rho) (μ : Mu) (Φ : DK) (v u : V) (d e : D) (Q : VK), WS B Z F H σ ρ μ → Rep B F v d → Rep B F u e → f d e μ Φ → Kt B Z σ ρ F Φ Q → r [v, u] H Q) : SimRL B r (dr2 f) := by
  intro Z F H σ ρ μ Φ xs ds Q w rs h1 k
  unfold dr2 at h1
  split at h1
  · cases rs with
    | cons r1 t => cases t with
      | cons r2 t => cases t; exact h Z F H σ ρ μ Φ _ _ _ _ Q w r1 r2 h1 k
  · exact h1.elim
theorem Rep.inv_i {B : Bd} {F : Hp} {v : V} {i : Int} (r : Rep B F v (dI i)) : v = .int i := r.inv_v
/-- len of a list or tuple; of a text -/
def fLen : D → Mu → DK → Prop := fun x μ Φ => rdSeq x μ fun ds => Φ (dI (ds.length : Int)) μ
def fLenS : D → Mu → DK → Prop := fun x μ Φ => match x with | .v (.str z) => lenOk z.length (Φ (dI (z.length : Int)) μ) | _ => False
/-- list(x), tuple(x) -/
def fListF : D → Mu → DK → Prop := fun x μ Φ => rdSeq x μ fun ds => Φ (.lst ds) μ
def fListM : D → Mu → DK → Prop := fun x μ Φ => rdSeq x μ fun ds => ∀ p, μ p = none → Φ (dR p) (mup μ p (.lst ds))
def fTuple : D → Mu → DK → Prop := fun x μ Φ => rdSeq x μ fun ds => Φ (.tup ds) μ
def fInt : D → Mu → DK → Prop := fun x μ Φ => match x with | .v (.int i) => Φ (dI i) μ | .v (.bl b) => Φ (dI (if b then 1 else 0)) μ | _ => False
def fStr : D → Mu → DK → Prop := fun x μ Φ => match x with | .v (.str i) => Φ (dS i) μ | _ => False
def fAbs : D → Mu → DK → Prop := fun x μ Φ => match x with | .v (.int i) => Φ (dI (if i < 0 then -i else i)) μ | _ => False
def fMax2 : D → D → Mu → DK → Prop := fun x y μ Φ => match x, y with | .v (.int i), .v (.int j) => Φ (dI (if j > i then j else i)) μ | _, _ => False
def fMin2 : D → D → Mu → DK → Prop := fun x y μ Φ => match x, y with | .v (.int i), .v (.int j) => Φ (dI (if j < i then j else i)) μ | _, _ => False
/-- of a frozen list of ints, of bools -/
def fMaxL : D → Mu → DK → Prop := fun x μ Φ => match x with | .lst ds => ∃ ns : List Int, ds = ns.map dI ∧ 0 < ns.length ∧ ∀ m, m ∈ ns → (∀ y, y ∈ ns → y ≤ m) → Φ (dI m) μ | _ => False
def fAll : D → Mu → DK → Prop := fun x μ Φ => match x with | .lst ds => ∃ bs : List Bool, ds = bs.map dB ∧ Φ (dB (bs.all id)) μ | _ => False
def fAny : D → Mu → DK → Prop := fun x μ Φ => match x with | .lst ds => ∃ bs : List Bool, ds = bs.map dB ∧ Φ (dB (bs.any id)) μ | _ => False
def fSort : D → Mu → DK → Prop := fun x μ Φ => match x with | .lst ds => ∃ ns : List Int, ds = ns.map dI ∧ ∀ ns' : List Int, ns'.Perm ns → ns'.Pairwise (· ≤ ·) → Φ (.lst (ns'.map dI)) μ | _ => False
/-- repr of an int, of None -/
def fReprI : D → Mu → DK → Prop := fun x μ Φ => match x with | .v (.int i) => i.natAbs.log2 < 1920 ∧ Φ (dS (toString i)) μ | _ => False
theorem mapI {ns : List Int} : ns.map dI = (ns.map V.int).map D.v := by rw [List.map_map] <;> rfl
theorem mapB {bs : List Bool} : bs.map dB = (bs.map V.bl).map D.v := by rw [List.map_map] <;> rfl
theorem mapS {xs : List Str} : xs.map dS = (xs.map V.str).map D.v := by rw [List.map_map] <;> rfl
section
variable {X : Cx}
theorem sim_len : SimRL (Bof X) (fun xs H Q => ∃ p ys, xs = [.ref p] ∧ (SqL X.K H p ys ∨ SqT X.K H p ys) ∧ Q (.int ys.length) H) (dr1 fLen) := sim_dr1 fun Z F H σ ρ μ Φ v d Q w r h k => by
  obtain ⟨a, vs, ds, rfl, q, t, h⟩ := rdSeq_ok w r h
  refine ⟨a, vs, rfl, q, ?_⟩
  rw [t.length]
  exact k _ _ μ F H (Same.refl F) w (.v _) h
theorem sim_lenS : SimRL (Bof X) (fun xs H Q => ∃ z, xs = [.str z] ∧ z.length ≤ sizeLine ∧ Q (.int z.length) H) (dr1 fLenS) := sim_dr1 fun Z F H σ ρ μ Φ v d Q w r h k => by
  unfold fLenS at h
  split at h
  · cases r
    obtain ⟨l, _, h⟩ := h.elim
    exact ⟨_, rfl, l, k _ _ μ F H (Same.refl F) w (.v _) h⟩
  · exact h.elim
theorem sim_listF : SimRL (Bof X) (fun xs H Q => ∃ p ys, xs = [.ref p] ∧ (SqL X.K H p ys ∨ SqT X.K H p ys) ∧ ∀ l, H l = none → Q (.ref l) (upd H l (.lst ys))) (dr1 fListF) := sim_dr1 fun Z F H σ ρ μ Φ v d Q w r h k => by
  obtain ⟨a, vs, ds, rfl, q, t, h⟩ := rdSeq_ok w r h
  refine ⟨a, vs, rfl, q, fun l hl => ?_⟩
  have s2 : Same F (upd F l (.lst vs)) := same_new (w.freshF hl)
  exact k _ _ μ _ _ s2 (w.newF hl) (.lst (SqL.of upd_same) (t.mono s2)) h
theorem sim_listM : SimRL (Bof X) (fun xs H Q => ∃ p ys, xs = [.ref p] ∧ (SqL X.K H p ys ∨ SqT X.K H p ys) ∧ ∀ l, H l = none → Q (.ref l) (upd H l (.lst ys))) (dr1 fListM) := sim_dr1 fun Z F H σ ρ μ Φ v d Q w r h k => by
  obtain ⟨a, vs, ds, rfl, q, t, h⟩ := rdSeq_ok w r h
  refine ⟨a, vs, rfl, q, fun l hl => ?_⟩
  exact k _ _ _ F _ (Same.refl F) (w.newM (m := .lst ds) hl ⟨vs, upd_same, t⟩) (.v _) (h l (w.freshM hl))
theorem sim_tuple : SimRL (Bof X) (fun xs H Q => ∃ p ys, xs = [.ref p] ∧ ((SqL X.K H p ys ∧ ∀ l, H l = none → Q (.ref l) (upd H l (.tup ys))) ∨ (SqT X.K H p ys ∧ Q (.ref p) H))) (dr1 fTuple) := sim_dr1 fun Z F H σ ρ μ Φ v d Q w r h k => by
  unfold fTuple rdSeq at h
  have new : ∀ {a : Addr} {vs : List V} {ds : List D}, SqL X.K H a vs → Reps (Bof X) F vs ds → Φ (.tup ds) μ → ∀ l, H l = none → Q (.ref l) (upd H l (.tup vs)) := fun {a vs ds} q t h l hl => by
    have s2 : Same F (upd F l (.tup vs)) := same_new (w.freshF hl)
    exact k _ _ μ _ _ s2 (w.newF hl) (.tup (SqT.of upd_same) (t.mono s2)) h
  split at h
  · cases r with
    | tup q t => exact ⟨_, _, rfl, .inr ⟨sqt_mono w.sub q, k _ _ μ F H (Same.refl F) w (.tup q t) h⟩⟩
  · cases r with
    | lst q t => exact ⟨_, _, rfl, .inl ⟨sql_mono w.sub q, new (sql_mono w.sub q) t h⟩⟩
  · cases r
    obtain ⟨ds, e, h⟩ := h
    obtain ⟨_, _, vs, hv, t⟩ := w.muts _ _ e
    exact ⟨_, vs, rfl, .inl ⟨SqL.of hv, new (SqL.of hv) t h⟩⟩
  · exact h.elim
theorem sim_int : SimRL (Bof X) (fun xs H Q => (∃ i, xs = [.int i] ∧ Q (.int i) H) ∨ ∃ k, xs = [.bl k] ∧ Q (.int (if k then 1 else 0)) H) (dr1 fInt) := sim_dr1 fun Z F H σ ρ μ Φ v d Q w r h k => by
  unfold fInt at h
  split at h
  · cases r; exact .inl ⟨_, rfl, k _ _ μ F H (Same.refl F) w (.v _) h⟩
  · cases r; exact .inr ⟨_, rfl, k _ _ μ F H (Same.refl F) w (.v _) h⟩
  · exact h.elim
theorem sim_str : SimRL (Bof X) (fun xs H Q => ∃ a, xs = [.str a] ∧ Q (.str a) H) (dr1 fStr) := sim_dr1 fun Z F H σ ρ μ Φ v d Q w r h k => by
  unfold fStr at h
  split at h
  · cases r; exact ⟨_, rfl, k _ _ μ F H (Same.refl F) w (.v _) h⟩
  · exact h.elim
theorem sim_abs : SimRL (Bof X) (fun xs H Q => ∃ i, xs = [.int i] ∧ Q (.int (if i < 0 then -i else i)) H) (dr1 fAbs) := sim_dr1 fun Z F H σ ρ μ Φ v d Q w r h k => by
  unfold fAbs at h
  split at h
  · cases r; exact ⟨_, rfl, k _ _ μ F H (Same.refl F) w (.v _) h⟩
  · exact h.elim
theorem sim_max2 : SimRL (Bof X) (fun xs H Q => ∃ i j, xs = [.int i, .int j] ∧ Q (.int (if j > i then j else i)) H) (dr2 fMax2) := sim_dr2 fun Z F H σ ρ μ Φ v u d e Q w r r2 h k => by
  unfold fMax2 at h
  split at h
  · cases r; cases r2; exact ⟨_, _, rfl, k _ _ μ F H (Same.refl F) w (.v _) h⟩
  · exact h.elim
theorem sim_min2 : SimRL (Bof X) (fun xs H Q => ∃ i j, xs = [.int i, .int j] ∧ Q (.int (if j < i then j else i)) H) (dr2 fMin2) := sim_dr2 fun Z F H σ ρ μ Φ v u d e Q w r r2 h k => by
  unfold fMin2 at h
  split at h
  · cases r; cases r2; exact ⟨_, _, rfl, k _ _ μ F H (Same.refl F) w (.v _) h⟩
  · exact h.elim
theorem sim_maxL : SimRL (Bof X) (rMax X.K) (dr1 fMaxL) := sim_dr1 fun Z F H σ ρ μ Φ v d Q w r h k => by
  unfold fMaxL at h
  split at h
  · obtain ⟨ns, rfl, h0, h⟩ := h
    rw [mapI] at r
    cases r with
    | lst q t =>
      rw [t.scal] at q
      exact ⟨_, ns, rfl, sql_mono w.sub q, h0, fun m h1 h2 => k _ _ μ F H (Same.refl F) w (.v _) (h m h1 h2)⟩
  · exact h.elim
theorem sim_all : SimRL (Bof X) (rAll X.K) (dr1 fAll) := sim_dr1 fun Z F H σ ρ μ Φ v d Q w r h k => by
  unfold fAll at h
  split at h
  · obtain ⟨bs, rfl, h⟩ := h
    rw [mapB] at r
    cases r with
    | lst q t =>
      rw [t.scal] at q
      exact ⟨_, bs, rfl, sql_mono w.sub q, k _ _ μ F H (Same.refl F) w (.v _) h⟩
  · exact h.elim
theorem sim_any : SimRL (Bof X) (rAny X.K) (dr1 fAny) := sim_dr1 fun Z F H σ ρ μ Φ v d Q w r h k => by
  unfold fAny at h
  split at h
  · obtain ⟨bs, rfl, h⟩ := h
    rw [mapB] at r
    cases r with
    | lst q t =>
      rw [t.scal] at q
      exact ⟨_, bs, rfl, sql_mono w.sub q, k _ _ μ F H (Same.refl F) w (.v _) h⟩
  · exact h.elim
theorem sim_sort : SimRL (Bof X) (rSortedI X.K) (dr1 fSort) := sim_dr1 fun Z F H σ ρ μ Φ v d Q w r h k => by
  unfold fSort at h
  split at h
  · obtain ⟨ns, rfl, h⟩ := h
    rw [mapI] at r
    cases r with
    | lst q t =>
      rw [t.scal] at q
      refine ⟨_, ns, rfl, sql_mono w.sub q, fun ns' p h1 h2 hp => ?_⟩
      have s2 : Same F (upd F p (.lst (ns'.map V.int))) := same_new (w.freshF hp)
      refine k _ (.lst (ns'.map dI)) μ _ _ s2 (w.newF hp) (.lst (SqL.of upd_same) ?_) (h ns' h1 h2)
      rw [mapI]; exact Reps.of_scal _
  · exact h.elim
theorem sim_reprI : SimRL (Bof X) (fun xs H Q => ∃ i, xs = [.int i] ∧ i.natAbs.log2 < 1920 ∧ Q (.str (toString i)) H) (dr1 fReprI) := sim_dr1 fun Z F H σ ρ μ Φ v d Q w r h k => by
  unfold fReprI at h
  split at h
  · cases r; exact ⟨_, rfl, h.1, k _ _ μ F H (Same.refl F) w (.v _) h.2⟩
  · exact h.elim
end

/-! ### subscripts -/
def fIx : DR2 := fun x y μ Φ => match y with | .v (.int i) => rdSeq x μ fun ds => (match atI ds i with | some d => Φ d μ | none => False) | _ => False
theorem Reps.atI {B : Bd} {F : Hp} {vs : List V} {ds : List D} {i : Int} {d : D} (r : Reps B F vs ds) (h : atI ds i = some d) : ∃ v, L2.atI vs i = some v ∧ Rep B F v d := by
  unfold L2.atI at h ⊢
  rw [r.length]
  cases e : ixN ds.length i with
  | none => rw [e] at h; cases h
  | some j =>
    rw [e] at h
    exact r.get h
def dIx (da db : DE) : DE := dOp fIx da db
section
variable {X : Cx} {a b o e : Expr} {da db de : DE} {pos p2 apos : Pos}
theorem sim_ix {K : PySem.W.Frag} {B : Bd} (hK : B.K = K) : SimR2 B (fun x y H Q => rIxL K x y H Q ∨ rIxT K x y H Q) fIx := by
  subst hK
  intro Z F H σ ρ μ Φ x y dx dy Q w rx ry h k
  unfold fIx at h
  split at h
  · cases ry
    obtain ⟨a, vs, ds, rfl, q, t, h⟩ := rdSeq_ok w rx h
    split at h
    · rename_i d e
      obtain ⟨v, hv, rv⟩ := t.atI e
      rcases q with q | q
      · exact .inl ⟨a, vs, _, v, rfl, rfl, q, hv, k v d μ F H (Same.refl F) w rv h⟩
      · exact .inr ⟨a, vs, _, v, rfl, rfl, q, hv, k v d μ F H (Same.refl F) w rv h⟩
    · exact h.elim
  · exact h.elim
theorem q_ix (ha : QE X a da) (hb : QE X b db) (hs : PlainIx b := by exact fun _ _ => rfl) : QE X (.Subscript a b pos) (dIx da db) := pe_imp (pe_ix (ix_list.or ix_tup) ha hb hs) (sim_op (sim_ix rfl))
/-! ### slices -/
def cutD (xs : List D) (lo hi : Option Int) : List D := (xs.drop (HT.sIx xs.length 0 lo)).take (HT.sIx xs.length xs.length hi - HT.sIx xs.length 0 lo)
theorem Reps.cut {B : Bd} {F : Hp} {vs : List V} {ds : List D} (r : Reps B F vs ds) (lo hi : Option Int) : Reps B F (cutV vs lo hi) (cutD ds lo hi) := by
  unfold cutV cutD
  rw [r.length]
  exact (r.drop _).take _
abbrev DO := Rho → Mu → (Option Int → Mu → Prop) → Prop
def cO (B : Bd) (do_ : DO) : TO := fun σ H Q => ∃ Z F ρ μ Φ, WS B Z F H σ ρ μ ∧ do_ ρ μ Φ ∧ ∀ o μ' F' H', Same F F' → WS B Z F' H' σ ρ μ' → Φ o μ' → Q o H'
abbrev QO (X : Cx) (e : Option Expr) (do_ : DO) : Prop := PO X e (cO (Bof X) do_)
def oNone : DO := fun _ μ Φ => Φ none μ
def oSome (de : DE) : DO := fun ρ μ Φ => de ρ μ fun x μ1 => match x with | .v (.int i) => Φ (some i) μ1 | _ => False
theorem o_none : QO X none oNone := ⟨fun pins s σ H Q I hw => by
  obtain ⟨Z, F, ρ, μ, Φ, w, h, k⟩ := hw
  exact po_none.run pins s σ H Q I (k none μ F H (Same.refl F) w h)⟩
theorem o_some (he : QE X e de) : QO X (some e) (oSome de) := ⟨fun pins s σ H Q I hw => by
  obtain ⟨Z, F, ρ, μ, Φ, w, h, k⟩ := hw
  refine (po_some he).run pins s σ H Q I ?_
  refine ⟨Z, F, ρ, μ, _, w, h, fun v d μ1 F1 H1 s1 w1 r1 h1 => ?_⟩
  split at h1
  · cases r1
    exact ⟨_, rfl, k _ μ1 F1 H1 s1 w1 h1⟩
  · exact h1.elim⟩
abbrev DSl := D → Option Int → Option Int → Mu → DK → Prop
def dSl (f : DSl) (da : DE) (dl dh : DO) : DE := fun ρ μ Φ => da ρ μ fun x μ1 => dl ρ μ1 fun l μ2 => dh ρ μ2 fun u μ3 => f x l u μ3 Φ
/-- of a list: a new one, frozen | may change; of a tuple -/
def fSlF : DSl := fun x lo hi μ Φ => match x with | .tup _ => False | _ => rdSeq x μ fun ds => Φ (.lst (cutD ds lo hi)) μ
def fSlM : DSl := fun x lo hi μ Φ => match x with | .tup _ => False | _ => rdSeq x μ fun ds => ∀ p, μ p = none → Φ (dR p) (mup μ p (.lst (cutD ds lo hi)))
def fSlT : DSl := fun x lo hi μ Φ => match x with | .tup ds => Φ (.tup (cutD ds lo hi)) μ | _ => False
theorem sim_sl {r : V → Option Int → Option Int → Hp → VK → Prop} {f : DSl} {dl dh : DO} (s : ∀ (Z : Zc) (F H : Hp) (σ : L2.St) (ρ : Rho) (μ : Mu) (Φ : DK) (x : V) (dx : D) (lo hi : Option Int) (Q : VK), WS (Bof X) Z F H σ ρ μ → Rep (Bof X) F x dx → f dx lo hi μ Φ → Kt (Bof X) Z σ ρ F Φ Q → r x lo hi H Q) :
    ∀ σ H Q, cE (Bof X) (dSl f da dl dh) σ H Q → tSl r (cE (Bof X) da) (cO (Bof X) dl) (cO (Bof X) dh) σ H Q := by
  rintro σ H Q ⟨Z, F, ρ, μ, Φ, w, h, k⟩
  refine ⟨Z, F, ρ, μ, _, w, h, fun v d μ1 F1 H1 s1 w1 r1 h1 => ?_⟩
  refine ⟨Z, F1, ρ, μ1, _, w1, h1, fun l μ2 F2 H2 s2 w2 h2 => ?_⟩
  refine ⟨Z, F2, ρ, μ2, _, w2, h2, fun u μ3 F3 H3 s3 w3 h3 => ?_⟩
  exact s Z F3 H3 σ ρ μ3 Φ v d l u Q w3 (r1.mono (s2.trans s3)) h3 (k.mono (s1.trans (s2.trans s3)))
theorem rdList_ok {B : Bd} {Z : Zc} {F H : Hp} {σ : L2.St} {ρ : Rho} {μ : Mu} {v : V} {d : D} {Ψ : List D → Prop} (w : WS B Z F H σ ρ μ) (r : Rep B F v d) (h : match d with | .tup _ => False | _ => rdSeq d μ Ψ) :
    ∃ a vs ds, v = .ref a ∧ SqL B.K H a vs ∧ Reps B F vs ds ∧ Ψ ds := by
  cases d with
  | tup ds => exact h.elim
  | lst ds => cases r with
    | lst q t => exact ⟨_, _, _, rfl, sql_mono w.sub q, t, h⟩
  | v y =>
    cases r
    cases v with
    | ref a =>
      obtain ⟨ds, e, h⟩ := h
      obtain ⟨_, _, vs, hv, t⟩ := w.muts _ _ e
      exact ⟨a, vs, ds, rfl, SqL.of hv, t, h⟩
    | _ => exact h.elim
  | dct _ => exact h.elim
  | dks _ => exact h.elim
  | ob _ _ _ => exact h.elim
theorem q_slF {lo hi : Option Expr} {dl dh : DO} (ha : QE X a da) (hl : QO X lo dl) (hh : QO X hi dh) : QE X (.Subscript a (.Slice lo hi none p2) pos) (dSl fSlF da dl dh) := pe_imp (pe_slice sl_list ha hl hh) (sim_sl (by
  intro Z F H σ ρ μ Φ x dx lo hi Q w r h k
  obtain ⟨a, vs, ds, rfl, q, t, h⟩ := rdList_ok w r (Ψ := fun ds => Φ (.lst (cutD ds lo hi)) μ) (by cases dx <;> exact h)
  refine ⟨a, vs, rfl, q, fun p hp => ?_⟩
  have s2 : Same F (upd F p (.lst (cutV vs lo hi))) := same_new (w.freshF hp)
  exact k _ _ μ _ _ s2 (w.newF hp) (.lst (SqL.of upd_same) ((t.cut lo hi).mono s2)) h))
theorem q_slM {lo hi : Option Expr} {dl dh : DO} (ha : QE X a da) (hl : QO X lo dl) (hh : QO X hi dh) : QE X (.Subscript a (.Slice lo hi none p2) pos) (dSl fSlM da dl dh) := pe_imp (pe_slice sl_list ha hl hh) (sim_sl (by
  intro Z F H σ ρ μ Φ x dx lo hi Q w r h k
  obtain ⟨a, vs, ds, rfl, q, t, h⟩ := rdList_ok w r (Ψ := fun ds => ∀ p, μ p = none → Φ (dR p) (mup μ p (.lst (cutD ds lo hi)))) (by cases dx <;> exact h)
  refine ⟨a, vs, rfl, q, fun p hp => ?_⟩
  exact k _ _ _ F _ (Same.refl F) (w.newM (m := .lst (cutD ds lo hi)) hp ⟨_, upd_same, t.cut lo hi⟩) (.v _) (h p (w.freshM hp))))
theorem cut_whole {xs : List D} {lo hi : Option Int} (h : HT.sIx xs.length 0 lo = 0 ∧ HT.sIx xs.length xs.length hi = xs.length) : cutD xs lo hi = xs := by
  unfold cutD
  rw [h.1, h.2, Nat.sub_zero, List.drop_zero, List.take_length]
theorem q_slT {lo hi : Option Expr} {dl dh : DO} (ha : QE X a da) (hl : QO X lo dl) (hh : QO X hi dh) : QE X (.Subscript a (.Slice lo hi none p2) pos) (dSl fSlT da dl dh) := pe_imp (pe_slice sl_tupA ha hl hh) (sim_sl (by
  intro Z F H σ ρ μ Φ x dx lo hi Q w r h k
  unfold fSlT at h
  split at h
  · rename_i ds
    cases r with
    | @tup _ vs _ q t =>
      refine ⟨_, vs, rfl, sqt_mono w.sub q, fun z => ?_, fun _ p hp => ?_⟩
      · rw [cut_whole (xs := ds) (by rw [← t.length]; exact z)] at h
        exact k _ _ μ F H (Same.refl F) w (.tup q t) h
      · have s2 : Same F (upd F p (.tup (cutV vs lo hi))) := same_new (w.freshF hp)
        exact k _ _ μ _ _ s2 (w.newF hp) (.tup (SqT.of upd_same) ((t.cut lo hi).mono s2)) h
  · exact h.elim))
end
end K3
set_option Elab.async false
set_option linter.all false
set_option maxRecDepth 100000
set_option maxHeartbeats 4000000
/-! KT: in, equality of data, texts, methods of lists and texts, isinstance. -/
namespace K3
open PySem PySem.Spec PyProof.Rows L2

/-! ### in, flat -/
def flatD : D → Option V
  | .v x => if flatV x then some x else none
  | _ => none
def flatsD : List D → Option (List V)
  | [] => some []
  | d :: ds => match flatD d, flatsD ds with | some x, some xs => some (x :: xs) | _, _ => none
theorem flats_of {B : Bd} {F : Hp} : ∀ {vs : List V} {ds : List D} {xs : List V}, Reps B F vs ds → flatsD ds = some xs → vs = xs ∧ xs.all flatV = true
  | _, _, xs, .nil, e => by cases e; exact ⟨rfl, rfl⟩
  | _, d :: ds, xs, .cons r t, e => by
    unfold flatsD at e
    split at e
    · rename_i y ys e1 e2
      cases e
      obtain ⟨h1, h2⟩ := flats_of t e2
      unfold flatD at e1
      split at e1
      · split at e1
        · rename_i hf
          cases e1
          cases r
          exact ⟨by rw [h1], by rw [List.all_cons, hf, h2] <;> rfl⟩
        · cases e1
      · cases e1
    · cases e
def fIn (neg : Bool) : DR2 := fun x y μ Φ => match x with
  | .v a => flatV a = true ∧ rdSeq y μ fun ds => ∃ xs, flatsD ds = some xs ∧ Φ (dB (if neg then !inV a xs else inV a xs)) μ
  | _ => False
theorem sim_in {B : Bd} {neg : Bool} : SimR2 B (rIn B.K neg) (fIn neg) := by
  intro Z F H σ ρ μ Φ x y dx dy Q w rx ry h k
  unfold fIn at h
  split at h
  · cases rx
    obtain ⟨fx, h⟩ := h
    obtain ⟨a, vs, ds, rfl, q, t, xs, e, h⟩ := rdSeq_ok w ry h
    obtain ⟨rfl, fs⟩ := flats_of t e
    exact ⟨a, vs, rfl, q, fx, fs, k _ _ μ F H (Same.refl F) w (.v _) h⟩
  · exact h.elim
theorem inV_int {i : Int} {ns : List Int} : inV (.int i) (ns.map V.int) = decide (i ∈ ns) := by
  unfold inV
  rw [List.any_map, Bool.eq_iff_iff, decide_eq_true_eq, List.any_eq_true]
  exact ⟨fun ⟨y, h, e⟩ => by have : y = i := eq_of_beq e; rw [← this]; exact h, fun h => ⟨i, h, beq_self_eq_true i⟩⟩
theorem inV_str {i : Str} {ns : List Str} : inV (.str i) (ns.map V.str) = decide (i ∈ ns) := by
  unfold inV
  rw [List.any_map, Bool.eq_iff_iff, decide_eq_true_eq, List.any_eq_true]
  exact ⟨fun ⟨y, h, e⟩ => by have : y = i := eq_of_beq e; rw [← this]; exact h, fun h => ⟨i, h, beq_self_eq_true i⟩⟩
theorem flats_v : ∀ {xs : List V}, xs.all flatV = true → flatsD (xs.map D.v) = some xs
  | [], _ => rfl
  | x :: xs, h => by
    rw [List.all_cons, Bool.and_eq_true] at h
    show (match (if flatV x then some x else none), flatsD (xs.map D.v) with | some x, some xs => some (x :: xs) | _, _ => none) = _
    rw [if_pos h.1, flats_v h.2]
theorem flats_int (ns : List Int) : flatsD (ns.map dI) = some (ns.map V.int) := by
  rw [mapI]
  exact flats_v (by rw [List.all_map]; exact List.all_eq_true.mpr fun _ _ => rfl)
theorem flats_str (ns : List Str) : flatsD (ns.map dS) = some (ns.map V.str) := by
  rw [mapS]
  exact flats_v (by rw [List.all_map]; exact List.all_eq_true.mpr fun _ _ => rfl)
/-! ### data that are compared: lists, tuples of flat things, of such -/
mutual
def toPy : D → Option PyData
  | .v .non => some .none
  | .v (.bl b) => some (.bool b)
  | .v (.int i) => some (.int i)
  | .v (.str x) => some (.str x)
  | .lst ds => (toPys ds).map PyData.list
  | .tup ds => (toPys ds).map PyData.tuple
  | _ => none
def toPys : List D → Option (List PyData)
  | [] => some []
  | d :: ds => match toPy d, toPys ds with | some x, some xs => some (x :: xs) | _, _ => none
end
mutual
theorem dp_of {B : Bd} {F H : Hp} (s : Same F H) : ∀ {v : V} {d : D} {p : PyData}, Rep B F v d → toPy d = some p → Dp B.K H v p
  | _, .v .non, _, .v _, e => by cases e; exact .non
  | _, .v (.bl b), _, .v _, e => by cases e; exact .bl b
  | _, .v (.int b), _, .v _, e => by cases e; exact .int b
  | _, .v (.str b), _, .v _, e => by cases e; exact .str b
  | _, .lst ds, p, .lst q r, e => by
    unfold toPy at e
    cases h : toPys ds with
    | none => rw [h] at e; cases e
    | some ps => rw [h] at e; cases e; exact .lst (sql_mono s q) (dps_of s r h)
  | _, .tup ds, p, .tup q r, e => by
    unfold toPy at e
    cases h : toPys ds with
    | none => rw [h] at e; cases e
    | some ps => rw [h] at e; cases e; exact .tup (sqt_mono s q) (dps_of s r h)
theorem dps_of {B : Bd} {F H : Hp} (s : Same F H) : ∀ {vs : List V} {ds : List D} {ps : List PyData}, Reps B F vs ds → toPys ds = some ps → DpAll B.K H vs ps
  | _, _, _, .nil, e => by cases e; exact .nil
  | _, d :: ds, ps, .cons r t, e => by
    unfold toPys at e
    split at e
    · rename_i x xs e1 e2
      cases e
      exact .cons (dp_of s r e1) (dps_of s t e2)
    · cases e
end
/-- the value of what is read (a list that may change as well), as comparable data -/
def rdPy (d : D) (μ : Mu) (Ψ : PyData → Prop) : Prop := match d with
  | .v (.ref a) => ∃ ds ps, μ a = some (.lst ds) ∧ toPys ds = some ps ∧ Ψ (.list ps)
  | _ => ∃ p, toPy d = some p ∧ Ψ p
theorem rdPy_ok {B : Bd} {Z : Zc} {F H : Hp} {σ : L2.St} {ρ : Rho} {μ : Mu} {v : V} {d : D} {Ψ : PyData → Prop} (w : WS B Z F H σ ρ μ) (r : Rep B F v d) (h : rdPy d μ Ψ) : ∃ p, Dp B.K H v p ∧ Ψ p := by
  have gen : (∃ p, toPy d = some p ∧ Ψ p) → ∃ p, Dp B.K H v p ∧ Ψ p := fun ⟨p, e, h⟩ => ⟨p, dp_of w.sub r e, h⟩
  unfold rdPy at h
  split at h
  · cases r
    obtain ⟨ds, ps, e, e2, h⟩ := h
    obtain ⟨_, _, vs, hv, t⟩ := w.muts _ _ e
    exact ⟨_, .lst (SqL.of hv) (dps_of w.sub t e2), h⟩
  · exact gen h
def fEqD (neg : Bool) : DR2 := fun x y μ Φ => rdPy x μ fun d => rdPy y μ fun e => SeqAt.shaped d = true ∧ SeqAt.shaped e = true ∧ Φ (dB (if neg then !PyData.eqv d e else PyData.eqv d e)) μ
theorem sim_eqD {B : Bd} : SimR2 B (rEqD B.K) (fEqD false) := by
  intro Z F H σ ρ μ Φ x y dx dy Q w rx ry h k
  obtain ⟨d, hd, h⟩ := rdPy_ok w rx h
  obtain ⟨e, he, h1, h2, h⟩ := rdPy_ok w ry h
  exact ⟨d, e, hd, he, h1, h2, k _ _ μ F H (Same.refl F) w (.v _) h⟩
theorem sim_neD {B : Bd} : SimR2 B (rNeD B.K) (fEqD true) := by
  intro Z F H σ ρ μ Φ x y dx dy Q w rx ry h k
  obtain ⟨d, hd, h⟩ := rdPy_ok w rx h
  obtain ⟨e, he, h1, h2, h⟩ := rdPy_ok w ry h
  exact ⟨d, e, hd, he, h1, h2, k _ _ μ F H (Same.refl F) w (.v _) h⟩
/-! ### texts -/
def fCatS : DR2 := fun x y μ Φ => match x, y with | .v (.str a), .v (.str b) => lenOk (a.length + b.length) (Φ (dS (a ++ b)) μ) | _, _ => False
theorem sim_catS {B : Bd} : SimR2 B (fun x y H Q => ∃ i j, x = .str i ∧ y = .str j ∧ i.length + j.length ≤ sizeLine ∧ Q (.str (i ++ j)) H) fCatS := by
  intro Z F H σ ρ μ Φ x y dx dy Q w rx ry h k
  unfold fCatS at h
  split at h
  · cases rx; cases ry
    obtain ⟨l, _, h⟩ := h.elim
    exact ⟨_, _, rfl, rfl, l, k _ _ μ F H (Same.refl F) w (.v _) h⟩
  · exact h.elim
def fInSg (neg : Bool) : DR2 := fun x y μ Φ => match x, y with | .v (.str a), .v (.str z) => ∃ c, a = ⟨#[c]⟩ ∧ Φ (dB (if neg then !decide (c ∈ z.cps.toList) else decide (c ∈ z.cps.toList))) μ | _, _ => False
/-- list + list -/
def fCat : DR2 := fun x y μ Φ => match x, y with | .tup _, _ => False | _, .tup _ => False | _, _ => rdSeq x μ fun xs => rdSeq y μ fun ys => lenOk (xs.length + ys.length) (Φ (.lst (xs ++ ys)) μ)
def fCatM : DR2 := fun x y μ Φ => match x, y with | .tup _, _ => False | _, .tup _ => False | _, _ => rdSeq x μ fun xs => rdSeq y μ fun ys => lenOk (xs.length + ys.length) (∀ p, μ p = none → Φ (dR p) (mup μ p (.lst (xs ++ ys))))

theorem rdListR_ok {B : Bd} {Z : Zc} {F H : Hp} {σ : L2.St} {ρ : Rho} {μ : Mu} {v : V} {d : D} {Ψ : List D → Prop} (w : WS B Z F H σ ρ μ) (r : Rep B F v d) (n : ∀ ds, d ≠ .tup ds) (h : rdSeq d μ Ψ) : ∃ a vs ds, v = .ref a ∧ SqL B.K H a vs ∧ Reps B F vs ds ∧ Ψ ds := by
  refine rdList_ok w r (Ψ := Ψ) ?_
  cases d with
  | tup ds => exact absurd rfl (n ds)
  | _ => exact h
/-- two lists at any addresses are put together -/
def rCatL (K : PySem.W.Frag) : R2 := fun x y H Q => ∃ a b xs ys, x = .ref a ∧ y = .ref b ∧ SqL K H a xs ∧ SqL K H b ys ∧ xs.length + ys.length ≤ sizeLine ∧ ∀ p, H p = none → Q (.ref p) (upd H p (.lst (xs ++ ys)))
theorem op_catL {X : Cx} : OpR X (binaryOp .Add) (rCatL X.K) := by
  intro pins s σ H x y v u Q I rx ry ⟨a, b, xs, ys, ex, ey, hA, hB, hz, q⟩
  subst ex ey
  cases rx
  cases ry
  obtain ⟨as, ra, ⟨⟨c1, d1, t1, sl1⟩, n1, g1, k1, e1, f1⟩, _⟩ := I.list hA
  obtain ⟨bs, rb, ⟨⟨c2, d2, t2, sl2⟩, n2, g2, k2, e2, f2⟩, _⟩ := I.list hB
  simp only at k1 f1 k2 f2
  subst k1 f1 k2 f2
  have len : as.toArray.size + bs.toArray.size ≤ sizeLine := by
    rw [List.size_toArray, List.size_toArray, ← ra.length, ← rb.length]; exact hz
  refine concat_meets ⟨_, g1, rfl⟩ ⟨_, g2, rfl⟩ noFill_list_add seq_list_add PySem.F.slot_list_add PySem.F.entry_list_add (PySem.F.args_list_add_2 _ _)
    (PyProof.Rows.list_addW a b as.toArray bs.toArray n1 n2 d1 d2 sl1 sl2 len) ⟨g1, g2, ?_⟩
  rw [show as.toArray ++ bs.toArray = (as ++ bs).toArray from by simp]
  exact ⟨.ref _, _, I.lnew (t' := s.toks) (ra.append rb) (by rw [List.length_append]; exact hz), rfl, q _ I.fresh⟩
def noTup : D → Bool | .tup _ => false | _ => true
def fCat2 : DR2 := fun x y μ Φ => noTup x = true ∧ noTup y = true ∧ rdSeq x μ fun xs => rdSeq y μ fun ys => lenOk (xs.length + ys.length) (Φ (.lst (xs ++ ys)) μ)
def fCat2M : DR2 := fun x y μ Φ => noTup x = true ∧ noTup y = true ∧ rdSeq x μ fun xs => rdSeq y μ fun ys => lenOk (xs.length + ys.length) (∀ p, μ p = none → Φ (dR p) (mup μ p (.lst (xs ++ ys))))
theorem noTup_ne {d : D} (h : noTup d = true) : ∀ ds, d ≠ .tup ds := fun ds e => by subst e; cases h
theorem sim_cat2 {B : Bd} : SimR2 B (rCatL B.K) fCat2 := by
  intro Z F H σ ρ μ Φ x y dx dy Q w rx ry ⟨n1, n2, h⟩ k
  obtain ⟨a, vs, ds, rfl, q1, t1, h⟩ := rdListR_ok w rx (noTup_ne n1) h
  obtain ⟨b, us, es, rfl, q2, t2, h⟩ := rdListR_ok w ry (noTup_ne n2) h
  obtain ⟨l, _, h⟩ := h.elim
  refine ⟨a, b, vs, us, rfl, rfl, q1, q2, by rw [t1.length, t2.length]; exact l, fun p hp => ?_⟩
  have s2 : Same F (upd F p (.lst (vs ++ us))) := same_new (w.freshF hp)
  exact k _ _ μ _ _ s2 (w.newF hp) (.lst (SqL.of upd_same) ((t1.append t2).mono s2)) h
theorem sim_cat2M {B : Bd} : SimR2 B (rCatL B.K) fCat2M := by
  intro Z F H σ ρ μ Φ x y dx dy Q w rx ry ⟨n1, n2, h⟩ k
  obtain ⟨a, vs, ds, rfl, q1, t1, h⟩ := rdListR_ok w rx (noTup_ne n1) h
  obtain ⟨b, us, es, rfl, q2, t2, h⟩ := rdListR_ok w ry (noTup_ne n2) h
  obtain ⟨l, _, h⟩ := h.elim
  refine ⟨a, b, vs, us, rfl, rfl, q1, q2, by rw [t1.length, t2.length]; exact l, fun p hp => ?_⟩
  exact k _ _ _ F _ (Same.refl F) (w.newM (m := .lst (ds ++ es)) hp ⟨_, upd_same, t1.append t2⟩) (.v _) (h p (w.freshM hp))
/-- tuples put together -/
def fCatT : DR2 := fun x y μ Φ => match x, y with | .tup xs, .tup ys => lenOk (xs.length + ys.length) (Φ (.tup (xs ++ ys)) μ) | _, _ => False
theorem sim_catT {B : Bd} : SimR2 B (rCatA B.K) fCatT := by
  intro Z F H σ ρ μ Φ x y dx dy Q w rx ry h k
  unfold fCatT at h
  split at h
  · cases rx with
    | @tup a vs ds q1 t1 => cases ry with
      | @tup b us es q2 t2 =>
        obtain ⟨l, _, h⟩ := h.elim
        refine ⟨a, b, vs, us, rfl, rfl, sqt_mono w.sub q1, sqt_mono w.sub q2, by rw [t1.length, t2.length]; exact l, fun z => ?_, fun _ z => ?_, fun _ _ p hp => ?_⟩
        · subst z
          cases t1
          exact k _ _ μ F H (Same.refl F) w (.tup q2 t2) h
        · subst z
          cases t2
          rw [List.append_nil] at h
          exact k _ _ μ F H (Same.refl F) w (.tup q1 t1) h
        · have s2 : Same F (upd F p (.tup (vs ++ us))) := same_new (w.freshF hp)
          exact k _ _ μ _ _ s2 (w.newF hp) (.tup (SqT.of upd_same) ((t1.append t2).mono s2)) h
  · exact h.elim
theorem sim_insg {B : Bd} : SimR2 B (fun x y H Q => ∃ (c : Nat) (z : Str), x = .str ⟨#[c]⟩ ∧ y = .str z ∧ Q (.bl (decide (c ∈ z.cps.toList))) H) (fInSg false) := by
  intro Z F H σ ρ μ Φ x y dx dy Q w rx ry h k
  unfold fInSg at h
  split at h
  · cases rx; cases ry
    obtain ⟨c, rfl, h⟩ := h
    exact ⟨c, _, rfl, rfl, k _ _ μ F H (Same.refl F) w (.v _) h⟩
  · exact h.elim

/-! ### methods of lists that may change -/
abbrev DLm := List D → List D → (List D → D → Prop) → Prop
def dLm (f : DLm) (de : DE) (da : DA) : DE := fun ρ μ Φ => de ρ μ fun x μ1 => match x with
  | .v (.ref l) => (∃ ys, μ1 l = some (.lst ys)) ∧ da ρ μ1 fun xs μ2 => ∃ ys, μ2 l = some (.lst ys) ∧ f ys xs fun zs d => Φ d (mup μ2 l (.lst zs))
  | _ => False
def lmApp : DLm := fun ys xs K => match xs with | [x] => lenOk ys.length (K (ys ++ [x]) dN) | _ => False
def lmPop : DLm := fun ys xs K => match xs with | [] => (match ys[ys.length - 1]? with | some y => K ys.dropLast y | none => False) | _ => False
def lmPopAt : DLm := fun ys xs K => match xs with | [.v (.int i)] => -(2 ^ 63) ≤ i ∧ i < 2 ^ 63 ∧ ∃ k y, seqIndex? i ys.length = some k ∧ ys[k]? = some y ∧ K (ys.eraseIdx k) y | _ => False
/-- what the V side wants of such a method -/
def SimLm (B : Bd) (r : V → List V → Hp → VK → Prop) (f : DLm) : Prop := ∀ (F H : Hp) (l : Addr) (vs us : List V) (ds es : List D) (Q : VK), H l = some (.lst vs) → Reps B F vs ds → Reps B F us es →
  (f ds es fun zs d => ∀ ws v, Reps B F ws zs → Rep B F v d → Q v (upd H l (.lst ws))) → r (.ref l) us H Q
theorem lmApp_mono {ys xs : List D} {K K' : List D → D → Prop} (h : lmApp ys xs K) (k : ∀ zs d, K zs d → K' zs d) : lmApp ys xs K' := by
  unfold lmApp lenOk at h ⊢
  split at h
  · split at h
    · exact k _ _ h
    · exact h.elim
  · exact h.elim
theorem lmPop_mono {ys xs : List D} {K K' : List D → D → Prop} (h : lmPop ys xs K) (k : ∀ zs d, K zs d → K' zs d) : lmPop ys xs K' := by
  unfold lmPop at h ⊢
  split at h
  · split at h
    · exact k _ _ h
    · exact h.elim
  · exact h.elim
theorem lmPopAt_mono {ys xs : List D} {K K' : List D → D → Prop} (h : lmPopAt ys xs K) (k : ∀ zs d, K zs d → K' zs d) : lmPopAt ys xs K' := by
  unfold lmPopAt at h ⊢
  split at h
  · obtain ⟨a, b, i, y, c, e, h⟩ := h
    exact ⟨a, b, i, y, c, e, k _ _ h⟩
  · exact h.elim
theorem simLm_app {B : Bd} : SimLm B rAppend lmApp := by
  intro F H l vs us ds es Q hl r1 r2 h
  unfold lmApp at h
  split at h
  · cases r2 with
    | cons ra t =>
      cases t
      obtain ⟨_, z, h⟩ := h.elim
      exact ⟨l, vs, _, rfl, rfl, hl, by rw [r1.length]; exact z, h _ _ (r1.append (.cons ra .nil)) (.v _)⟩
  · exact h.elim
theorem simLm_pop {B : Bd} : SimLm B rPop lmPop := by
  intro F H l vs us ds es Q hl r1 r2 h
  unfold lmPop at h
  split at h
  · cases r2
    split at h
    · rename_i y e
      rw [← r1.length] at e
      obtain ⟨v, hv, rv⟩ := r1.get e
      exact ⟨l, vs, v, rfl, rfl, hl, hv, h _ _ r1.dropLast rv⟩
    · exact h.elim
  · exact h.elim
theorem simLm_popAt {B : Bd} : SimLm B rPopAt lmPopAt := by
  intro F H l vs us ds es Q hl r1 r2 h
  unfold lmPopAt at h
  split at h
  · cases r2 with
    | cons ra t =>
      cases t; cases ra
      obtain ⟨b1, b2, i, y, e1, e2, h⟩ := h
      obtain ⟨v, hv, rv⟩ := r1.get e2
      exact ⟨l, vs, _, i, v, rfl, rfl, hl, b1, b2, by rw [r1.length]; exact e1, hv, h _ _ (r1.eraseIdx i) rv⟩
  · exact h.elim
section
variable {X : Cx} {o e : Expr} {es : List Expr} {de : DE} {da : DA} {name : Str} {apos cpos : Pos} {id : String} {r : V → List V → Hp → VK → Prop} {f : DLm}
theorem lm_after {Z : Zc} {F H : Hp} {σ : L2.St} {ρ : Rho} {μ : Mu} {Φ : DK} {Q : VK} {l : Addr} {ys es : List D} {us : List V} (s : SimLm (Bof X) r f) (fm : ∀ {ys xs : List D} {K K' : List D → D → Prop}, f ys xs K → (∀ zs d, K zs d → K' zs d) → f ys xs K') (w : WS (Bof X) Z F H σ ρ μ) (k : Kt (Bof X) Z σ ρ F Φ Q) (el : μ l = some (.lst ys)) (ra : Reps (Bof X) F us es) (h : f ys es fun zs d => Φ d (mup μ l (.lst zs))) : r (.ref l) us H Q := by
  obtain ⟨_, _, vs, hv, t⟩ := w.muts _ _ el
  refine s F H l vs us ys es Q hv t ra (fm h fun zs d h => ?_)
  intro ws v r1 r2
  exact k v d _ F _ (Same.refl F) (w.mut (m' := .lst zs) el ⟨ws, upd_same, r1⟩) r2 h
theorem q_lm (pa : PlainAttrs "list") (slot : Slot "list" name id) (hty : typeOf (.builtin id) = pure (.type "method_descriptor")) (hm : MtR X id r) (s : SimLm (Bof X) r f) (fm : ∀ {ys xs : List D} {K K' : List D → D → Prop}, f ys xs K → (∀ zs d, K zs d → K' zs d) → f ys xs K') (ho : QE X o de) (ha : QA X (e :: es) da)
    (hbase : attributeBase o name X.env (eval o X.env) = eval o X.env := by rfl)
    (hfew : ((backTo cpos (starEach (e :: es) X.env)).all (fun x => !x.1) && (backToKw cpos (keywordEach [] X.env)).all (fun x => x.1.isSome)
      && decide ((e :: es).length + ([] : List Keyword).length + (if ([] : List Keyword).isEmpty then 0 else 1) < 30)) = true := by rfl)
    (hline : (apos.endLine == cpos.line) = true := by rfl) (hs : starEach (e :: es) X.env = (false, eval e X.env) :: starEach es X.env := by rfl) (hplain : (backTo cpos (starEach es X.env)).any (·.1) = false := by rfl) :
    QE X (.Call (.Attribute o name apos) (e :: es) [] cpos) (dLm f de da) := by
  refine pe_imp (pe_bm pa slot hty hm ho ha hbase hfew hline hs hplain) ?_
  rintro σ H Q ⟨Z, F, ρ, μ, Φ, w, h, k⟩
  refine ⟨Z, F, ρ, μ, _, w, h, fun v d μ1 F1 H1 s1 w1 r1 h1 => ?_⟩
  split at h1
  · rename_i l
    cases r1
    obtain ⟨⟨y0, e0⟩, h1⟩ := h1
    obtain ⟨_, _, v0, hv0, _⟩ := w1.muts _ _ e0
    refine ⟨.inl ⟨rfl, v0, SqL.of hv0⟩, Z, F1, ρ, μ1, _, w1, h1, fun us ds μ2 F2 H2 s2 w2 r2 h2 => ?_⟩
    obtain ⟨ys, el, h2⟩ := h2
    exact lm_after s fm w2 (k.mono (s1.trans s2)) el r2 h2
  · exact h1.elim
theorem q_lm0 (pa : PlainAttrs "list") (slot : Slot "list" name id) (hty : typeOf (.builtin id) = pure (.type "method_descriptor")) (hm : MtR X id r) (s : SimLm (Bof X) r f) (fm : ∀ {ys xs : List D} {K K' : List D → D → Prop}, f ys xs K → (∀ zs d, K zs d → K' zs d) → f ys xs K') (ho : QE X o de)
    (hbase : attributeBase o name X.env (eval o X.env) = eval o X.env := by rfl) (hline : (apos.endLine == cpos.line) = true := by rfl) : QE X (.Call (.Attribute o name apos) [] [] cpos) (dLm f de dNil) := by
  refine pe_imp (pe_bm0 pa slot hty hm ho hbase hline) ?_
  rintro σ H Q ⟨Z, F, ρ, μ, Φ, w, h, k⟩
  refine ⟨Z, F, ρ, μ, _, w, h, fun v d μ1 F1 H1 s1 w1 r1 h1 => ?_⟩
  split at h1
  · rename_i l
    cases r1
    obtain ⟨⟨y0, e0⟩, ys, el, h1⟩ := h1
    obtain ⟨_, _, v0, hv0, _⟩ := w1.muts _ _ e0
    exact ⟨.inl ⟨rfl, v0, SqL.of hv0⟩, lm_after s fm w1 (k.mono s1) el .nil h1⟩
  · exact h1.elim
/-- xs.extend(ys), both may change -/
def dExt (de : DE) (da : DA) : DE := fun ρ μ Φ => de ρ μ fun x μ1 => match x with
  | .v (.ref l) => (∃ ys, μ1 l = some (.lst ys)) ∧ da ρ μ1 fun xs μ2 => match xs with
    | [.v (.ref b)] => ∃ ys zs, μ2 l = some (.lst ys) ∧ μ2 b = some (.lst zs) ∧ lenOk (ys.length + zs.length) (Φ dN (mup μ2 l (.lst (ys ++ zs))))
    | _ => False
  | _ => False
theorem q_ext (ho : QE X o de) (ha : QA X [e] da) (hbase : attributeBase o "extend" X.env (eval o X.env) = eval o X.env := by rfl)
    (hfew : ((backTo cpos (starEach [e] X.env)).all (fun x => !x.1) && (backToKw cpos (keywordEach [] X.env)).all (fun x => x.1.isSome)
      && decide ([e].length + ([] : List Keyword).length + (if ([] : List Keyword).isEmpty then 0 else 1) < 30)) = true := by rfl)
    (hline : (apos.endLine == cpos.line) = true := by rfl) (hs : starEach [e] X.env = (false, eval e X.env) :: starEach [] X.env := by rfl) (hplain : (backTo cpos (starEach [] X.env)).any (·.1) = false := by rfl) :
    QE X (.Call (.Attribute o "extend" apos) [e] [] cpos) (dExt de da) := by
  refine pe_imp (pe_bm PySem.F.plainAttrs_list PySem.F.slot_list_extend PySem.F.type_list_extend mt_extend ho ha hbase hfew hline hs hplain) ?_
  rintro σ H Q ⟨Z, F, ρ, μ, Φ, w, h, k⟩
  refine ⟨Z, F, ρ, μ, _, w, h, fun v d μ1 F1 H1 s1 w1 r1 h1 => ?_⟩
  split at h1
  · rename_i l
    cases r1
    obtain ⟨⟨y0, e0⟩, h1⟩ := h1
    obtain ⟨_, _, v0, hv0, _⟩ := w1.muts _ _ e0
    refine ⟨.inl ⟨rfl, v0, SqL.of hv0⟩, Z, F1, ρ, μ1, _, w1, h1, fun us ds μ2 F2 H2 s2 w2 r2 h2 => ?_⟩
    split at h2
    · rename_i b
      cases r2 with
      | cons ra t =>
        cases t; cases ra
        obtain ⟨ys, zs, e1, e2, h2⟩ := h2
        obtain ⟨z, _, h2⟩ := h2.elim
        obtain ⟨_, _, vs, hv, t1⟩ := w2.muts _ _ e1
        obtain ⟨_, _, ws, hw, t2⟩ := w2.muts _ _ e2
        refine ⟨l, b, vs, ws, rfl, rfl, hv, hw, by rw [t1.length, t2.length]; exact z, ?_⟩
        exact k _ _ _ F2 _ (s1.trans s2) (w2.mut (m' := .lst (ys ++ zs)) e1 ⟨_, upd_same, t1.append t2⟩) (.v _) h2
    · exact h2.elim
  · exact h1.elim
/-! ### methods of texts -/
def dSplit (de db : DE) : DE := fun ρ μ Φ => de ρ μ fun x μ1 => match x with | .v (.str a) => db ρ μ1 fun y μ2 => (match y with | .v (.str b) => (b.length == 0) = false ∧ lenOk (a.length + 2) (Φ (.lst ((Txt.split a b).map dS)) μ2) | _ => False) | _ => False
theorem q_split {db : DE} (ho : QE X o de) (he : QE X e db) (hs : starEach [e] X.env = [(false, eval e X.env)] := by rfl) (hbase : attributeBase o "split" X.env (eval o X.env) = eval o X.env := by rfl) (hline : (apos.endLine == cpos.line) = true := by rfl) :
    QE X (.Call (.Attribute o "split" apos) [e] [] cpos) (dSplit de db) := by
  refine pe_imp (pe_split ho he hs hbase hline) ?_
  rintro σ H Q ⟨Z, F, ρ, μ, Φ, w, h, k⟩
  refine ⟨Z, F, ρ, μ, _, w, h, fun v d μ1 F1 H1 s1 w1 r1 h1 => ?_⟩
  split at h1
  · rename_i a
    cases r1
    refine ⟨⟨_, rfl⟩, Z, F1, ρ, μ1, _, w1, h1, fun u d2 μ2 F2 H2 s2 w2 r2 h2 => ?_⟩
    split at h2
    · rename_i b
      cases r2
      obtain ⟨hb, h2⟩ := h2
      obtain ⟨z, _, h2⟩ := h2.elim
      refine ⟨_, _, rfl, rfl, hb, z, fun p hp => ?_⟩
      have s3 : Same F2 (upd F2 p (.lst ((Txt.split a b).map V.str))) := same_new (w2.freshF hp)
      refine k _ _ μ2 _ _ (s1.trans (s2.trans s3)) (w2.newF hp) (.lst (SqL.of upd_same) ?_) h2
      rw [mapS]; exact Reps.of_scal _
    · exact h2.elim
  · exact h1.elim
def dJoin (de db : DE) : DE := fun ρ μ Φ => de ρ μ fun x μ1 => match x with | .v (.str a) => db ρ μ1 fun y μ2 => rdSeq y μ2 fun ds => ∃ ys : List Str, ds = ys.map dS ∧ (ys.map (·.length)).sum + ys.length * a.length ≤ 16777216 ∧ Φ (dS (Txt.join a ys)) μ2 | _ => False
theorem q_join {db : DE} (ho : QE X o de) (he : QE X e db) (hs : starEach [e] X.env = [(false, eval e X.env)] := by rfl) (hbase : attributeBase o "join" X.env (eval o X.env) = eval o X.env := by rfl) (hline : (apos.endLine == cpos.line) = true := by rfl) :
    QE X (.Call (.Attribute o "join" apos) [e] [] cpos) (dJoin de db) := by
  refine pe_imp (pe_join ho he hs hbase hline) ?_
  rintro σ H Q ⟨Z, F, ρ, μ, Φ, w, h, k⟩
  refine ⟨Z, F, ρ, μ, _, w, h, fun v d μ1 F1 H1 s1 w1 r1 h1 => ?_⟩
  split at h1
  · cases r1
    refine ⟨⟨_, rfl⟩, Z, F1, ρ, μ1, _, w1, h1, fun u d2 μ2 F2 H2 s2 w2 r2 h2 => ?_⟩
    obtain ⟨a, vs, ds, rfl, q, t, ys, rfl, z, h2⟩ := rdSeq_ok w2 r2 h2
    rw [mapS] at t
    rw [t.scal] at q
    exact ⟨_, a, ys, rfl, rfl, q, z, k _ _ μ2 F2 H2 (s1.trans s2) w2 (.v _) h2⟩
  · exact h1.elim
end
end K3
set_option Elab.async false
set_option linter.all false
set_option maxRecDepth 100000
set_option maxHeartbeats 1000000
/-! KU: dicts keyed by tuples of texts, None, ints. -/
namespace K3
open PySem PySem.Spec PyProof.Rows L2

/-! ### what a key is, what such a dict is, on the machine -/
abbrev tk (X : Cx) : HeapKind X.prog X.w (List Leaf) := tupleKind (leafKind X.prog X.w)
theorem leaf_is {P : Program} {w : World} : ∀ {k : Leaf} {u : Value}, RelV (leafV k) u → (leafKind P w).is k u = true
  | .none, u, r => by cases (show u = Value.none from r); rfl
  | .num i, u, r => by
    obtain ⟨t, rfl⟩ := (show ∃ t, u = Value.int i t from r)
    exact decide_eq_true rfl
  | .text x, u, r => by
    obtain ⟨t, rfl⟩ := (show ∃ t, u = Value.str x t from r)
    show (x == x) = true
    exact beq_self_eq_true x
theorem items_is {P : Program} {w : World} : ∀ {k : List Leaf} {us : List Value}, Vals (k.map leafV) us → ItemsAre (leafKind P w) k us
  | [], _, .nil => .nil
  | a :: k, _, .cons r t => .cons (leaf_is r) (items_is t)
section
variable {X : Cx} {pins : List (Addr × Obj)} {σ : L2.St} {H : Hp} {s : Shared}
theorem key_is (I : Inv X pins σ H s) {b : Addr} {k : List Leaf} (q : SqT X.K H b (k.map leafV)) : (tk X).is s.heap k b := by
  obtain ⟨its, r, ⟨o, ho, hc, n, hd⟩, _⟩ := I.tuple q
  exact ⟨o, its.toArray, n, ho, hc, hd, by simpa using items_is r⟩
/-- the dict at a -/
def DTb (P : Program) (w : World) (K : PySem.W.Frag) (H : Hp) (a : Addr) (xs : List (List Leaf × Addr × Value)) : Prop :=
  (∃ es ep, H a = some (dno a es ep) ∧ es.toList = xs.map (entryOfKey (tupleKind (leafKind P w)))) ∧ (xs.map (·.1)).Nodup ∧ xs.length ≤ sizeLine ∧ ∀ x ∈ xs, SqT K H x.2.1 (x.1.map leafV)
theorem dtb_at (I : Inv X pins σ H s) {a : Addr} {xs : List (List Leaf × Addr × Value)} (d : DTb X.prog X.w X.K H a xs) : s.heap.DictOfH (tk X) a xs ∧ (a == sysModules) = false ∧ s.TypeIs (.ref a) "dict" ∧ ∀ b, Value.ref a = .ref b → ∃ ob, s.heap.get? b = some ob ∧ ob.dict = none := by
  obtain ⟨⟨es, ep, h, e⟩, n, _, ks⟩ := d
  obtain ⟨hs, o, ho, hx, hd⟩ := dno_at I.hok h
  refine ⟨⟨o, es, ep, ho, hx, hd, e, fun x m => key_is I (ks x m), n⟩, hs, ⟨o, ho, hx.1⟩, fun b q => ?_⟩
  cases q
  exact ⟨o, ho, hx.2.1⟩
/-- behind a store -/
theorem inv_stored (I : Inv X pins σ H s) {a : Addr} {es0 : Array DictEntry} {ep0 : Nat} {ys : List (List Leaf × Addr × Value)} {h' : Heap} {t : Nat} (hs : (a == sysModules) = false) (h : H a = some (dno a es0 ep0)) (d : h'.DictOfH (tk X) a ys) (sb : Heap.SameBut a s.heap h') :
    ∃ es ep, es.toList = ys.map (entryOfKey (tk X)) ∧ (ys.map (·.1)).Nodup ∧ Inv X pins σ (upd H a (dno a es ep)) { s with heap := h', toks := t } := by
  obtain ⟨o, es, ep, ho, hx, hd, e, _, n⟩ := d
  refine ⟨es, ep, e, n, I.write (e := a) (by rw [h]; trivial) (.inl rfl) (fun b u hb hu => (sb.2 b hb).trans hu) ⟨o, ho⟩ ?_⟩
  exact ⟨⟨hs, o, ho, hx, hd⟩, ⟨o, ho⟩, fun h1 h2 p k => by
    first
      | exact ⟨k.1, k.2.choose, p _ k.2.choose_spec.1, k.2.choose_spec.2⟩
      | exact ⟨p.1, p.2.choose, k _ p.2.choose_spec.1, p.2.choose_spec.2⟩⟩
theorem inv_new (I : Inv X pins σ H s) {a : Addr} {ys : List (List Leaf × Addr × Value)} {h' : Heap} {t : Nat} (hs : (a == sysModules) = false) (d : h'.DictOfH (tk X) a ys) (hp : s.heap.objs.size ≤ a) (k : ∀ b o, s.heap.get? b = some o → h'.get? b = some o) :
    ∃ es ep, es.toList = ys.map (entryOfKey (tk X)) ∧ (ys.map (·.1)).Nodup ∧ Inv X pins σ (upd H a (dno a es ep)) { s with heap := h', toks := t } := by
  obtain ⟨o, es, ep, ho, hx, hd, e, _, n⟩ := d
  refine ⟨es, ep, e, n, I.laid k hp ?_⟩
  exact ⟨⟨hs, o, ho, hx, hd⟩, ⟨o, ho⟩, fun h1 h2 p k => by
    first
      | exact ⟨k.1, k.2.choose, p _ k.2.choose_spec.1, k.2.choose_spec.2⟩
      | exact ⟨p.1, p.2.choose, k _ p.2.choose_spec.1, p.2.choose_spec.2⟩⟩
theorem fresh_sys (I : Inv X pins σ H s) {a : Addr} (hp : s.heap.objs.size ≤ a) : (a == sysModules) = false := by
  exact beq_eq_false_iff_ne.mpr fun z => absurd (Nat.lt_of_lt_of_le I.big hp) (by rw [z]; exact Nat.lt_irrefl _)
end

/-! ### on the side of the data -/
def lookD (kvs : List (List Leaf × D)) (k : List Leaf) : Option D := (kvs.find? fun kv => decide (kv.1 = k)).map (·.2)
def putD (kvs : List (List Leaf × D)) (k : List Leaf) (d : D) : List (List Leaf × D) := if (lookD kvs k).isSome then kvs.map (fun kv => if kv.1 = k then (kv.1, d) else kv) else kvs ++ [(k, d)]
section
variable {B : Bd} {F : Hp} {k : List Leaf}
theorem repk_look : ∀ {xs : List (List Leaf × Addr × Value)} {kvs : List (List Leaf × D)}, Repk B F xs kvs → (atKey xs k = none ∧ lookD kvs k = none) ∨ ∃ b u v d, atKey xs k = some (b, u) ∧ lookD kvs k = some d ∧ RelV v u ∧ Rep B F v d
  | _, _, .nil => .inl ⟨rfl, rfl⟩
  | (k', b, u) :: xs, (_, d) :: kvs, .cons q r h t => by
    by_cases e : k' = k
    · exact .inr ⟨b, u, _, d, by simp [atKey, e], by simp [lookD, e], r, h⟩
    · rcases repk_look t with ⟨h1, h2⟩ | ⟨b', u', v', d', h1, h2, h3⟩
      · exact .inl ⟨by simpa [atKey, e] using h1, by simpa [lookD, e] using h2⟩
      · exact .inr ⟨b', u', v', d', by simpa [atKey, e] using h1, by simpa [lookD, e] using h2, h3⟩
theorem repk_some {xs : List (List Leaf × Addr × Value)} {kvs : List (List Leaf × D)} (r : Repk B F xs kvs) : (atKey xs k).isSome = (lookD kvs k).isSome := by
  rcases repk_look (k := k) r with ⟨h1, h2⟩ | ⟨b, u, v, d, h1, h2, _⟩
  · rw [h1, h2] <;> rfl
  · rw [h1, h2] <;> rfl
theorem repk_app : ∀ {xs ys : List (List Leaf × Addr × Value)} {kvs kws : List (List Leaf × D)}, Repk B F xs kvs → Repk B F ys kws → Repk B F (xs ++ ys) (kvs ++ kws)
  | _, _, _, _, .nil, s => s
  | _, _, _, _, .cons q r h t, s => .cons q r h (repk_app t s)
theorem repk_map {v : V} {u : Value} {d : D} (rv : RelV v u) (rd : Rep B F v d) : ∀ {xs : List (List Leaf × Addr × Value)} {kvs : List (List Leaf × D)}, Repk B F xs kvs → Repk B F (xs.map (putAt k u)) (kvs.map fun kv => if kv.1 = k then (kv.1, d) else kv)
  | _, _, .nil => .nil
  | (k', b, u') :: xs, (_, d') :: kvs, .cons q r h t => by
    have ih := repk_map rv rd t
    rw [List.map_cons, List.map_cons]
    by_cases e : k' = k
    · have e1 : putAt k u (k', b, u') = (k', b, u) := by simp [putAt, e]
      rw [e1, if_pos e]
      exact .cons q rv rd ih
    · have e1 : putAt k u (k', b, u') = (k', b, u') := by simp [putAt, e]
      rw [e1, if_neg e]
      exact .cons q r h ih
theorem repk_put {xs : List (List Leaf × Addr × Value)} {kvs : List (List Leaf × D)} {b : Addr} {v : V} {u : Value} {d : D} (r : Repk B F xs kvs) (q : SqT B.K F b (k.map leafV)) (rv : RelV v u) (rd : Rep B F v d) : Repk B F (storedH xs k b u) (putD kvs k d) := by
  unfold storedH putD
  rw [repk_some r]
  split
  · exact repk_map rv rd r
  · exact repk_app r (.cons q rv rd .nil)
theorem repk_keys : ∀ {xs : List (List Leaf × Addr × Value)} {kvs : List (List Leaf × D)}, Repk B F xs kvs → ∀ x ∈ xs, SqT B.K F x.2.1 (x.1.map leafV)
  | _, _, .nil => fun x h => by cases h
  | _, _, .cons q r h t => fun x hx => by
    rcases List.mem_cons.mp hx with e | hx
    · rw [e]; exact q
    · exact repk_keys t x hx
theorem key_rep {v : V} (r : Rep B F v (keyD k)) : ∃ b, v = .ref b ∧ SqT B.K F b (k.map leafV) := by
  have e : keyD k = .tup ((k.map leafV).map D.v) := by unfold keyD; rw [List.map_map] <;> rfl
  rw [e] at r
  cases r with
  | tup q t => rw [t.scal] at q; exact ⟨_, rfl, q⟩
end
/-- a dict that is read -/
def rdDct (d : D) (μ : Mu) (Ψ : List (List Leaf × D) → Prop) : Prop := match d with
  | .dct kvs => Ψ kvs
  | .v (.ref a) => ∃ kvs, μ a = some (.dct kvs) ∧ Ψ kvs
  | _ => False
theorem dtb_of {B : Bd} {F H : Hp} {a : Addr} {es : Array DictEntry} {ep : Nat} {xs : List (List Leaf × Addr × Value)} {kvs : List (List Leaf × D)} (s : Same F H) (h : H a = some (dno a es ep)) (e : DEs B es xs) (r : Repk B F xs kvs) : DTb B.P B.w B.K H a xs :=
  ⟨⟨es, ep, h, e.1⟩, e.2.1, e.2.2, fun x m => sqt_mono s (repk_keys r x m)⟩
theorem rdDct_ok {B : Bd} {Z : Zc} {F H : Hp} {σ : L2.St} {ρ : Rho} {μ : Mu} {v : V} {d : D} {Ψ : List (List Leaf × D) → Prop} (w : WS B Z F H σ ρ μ) (r : Rep B F v d) (h : rdDct d μ Ψ) :
    ∃ a xs kvs, v = .ref a ∧ DTb B.P B.w B.K H a xs ∧ Repk B F xs kvs ∧ Ψ kvs := by
  unfold rdDct at h
  split at h
  · cases r with
    | dct q e t => exact ⟨_, _, _, rfl, dtb_of w.sub (w.sub _ _ q) e t, t, h⟩
  · cases r
    obtain ⟨kvs, e, h⟩ := h
    obtain ⟨_, _, es, ep, xs, q, e2, t⟩ := w.muts _ _ e
    exact ⟨_, xs, kvs, rfl, dtb_of w.sub q e2 t, t, h⟩
  · exact h.elim

/-! ### in, not in -/
def rDIn (P : Program) (w : World) (K : PySem.W.Frag) (neg : Bool) : R2 := fun x y H Q => ∃ b a k xs, x = .ref b ∧ y = .ref a ∧ SqT K H b (k.map leafV) ∧ DTb P w K H a xs ∧ Q (.bl (if neg then !(atKey xs k).isSome else (atKey xs k).isSome)) H
theorem op_dIn {X : Cx} (hu : X.A.units + 1 < cLine) : OpR X (compareOp .In) (rDIn X.prog X.w X.K false) := by
  intro pins s σ H x y v u Q I rx ry ⟨b, a, k, xs, ex, ey, hk, hd, q⟩
  subst ex ey
  cases rx; cases ry
  obtain ⟨h1, h2, _, _⟩ := dtb_at I hd
  exact wpAny_in_heap (knd := tk X) hu (key_is I hk) h2 h1 ⟨.bl _, H, I.tok _, rfl, q⟩
theorem op_dNotIn {X : Cx} (hu : X.A.units + 1 < cLine) : OpR X (compareOp .NotIn) (rDIn X.prog X.w X.K true) := by
  intro pins s σ H x y v u Q I rx ry ⟨b, a, k, xs, ex, ey, hk, hd, q⟩
  subst ex ey
  cases rx; cases ry
  obtain ⟨h1, h2, _, _⟩ := dtb_at I hd
  refine notIn_keyed (knd := tk X) (kvs := pairsH xs) hu (key_is I hk) h2 ⟨xs, h1, rfl⟩ ⟨.bl _, H, I.tok _, rfl, ?_⟩
  rw [valueAt_pairsH, Option.isSome_map]
  exact q
def fDIn (neg : Bool) : DR2 := fun x y μ Φ => ∃ k, x = keyD k ∧ rdDct y μ fun kvs => Φ (dB (if neg then !(lookD kvs k).isSome else (lookD kvs k).isSome)) μ
theorem sim_dIn {B : Bd} {neg : Bool} : SimR2 B (rDIn B.P B.w B.K neg) (fDIn neg) := by
  intro Z F H σ ρ μ Φ x y dx dy Q w rx ry ⟨k, e, h⟩ kk
  subst e
  obtain ⟨b, rfl, hb⟩ := key_rep rx
  obtain ⟨a, xs, kvs, rfl, hd, r, h⟩ := rdDct_ok w ry h
  refine ⟨b, a, k, xs, rfl, rfl, sqt_mono w.sub hb, hd, ?_⟩
  rw [repk_some r]
  exact kk _ _ μ F H (Same.refl F) w (.v _) h

/-! ### d[k] -/
def rDGet (P : Program) (w : World) (K : PySem.W.Frag) : R2 := fun x y H Q => ∃ b a k xs c u v, x = .ref a ∧ y = .ref b ∧ SqT K H b (k.map leafV) ∧ DTb P w K H a xs ∧ atKey xs k = some (c, u) ∧ RelV v u ∧ Q v H
section
variable {X : Cx} {o i e : Expr} {td ti : TE} {de di da : DE} {pos apos cpos tpos : Pos}
theorem pe_dGet (hu : X.A.units + 1 < cLine) (ho : PE X o td) (hi : PE X i ti) (hs : NoSl i) : PE X (.Subscript o i pos) (tOp (rDGet X.prog X.w X.K) td ti) := by
  refine ⟨fun pins s σ H Q I h => ?_⟩
  refine subD_of PySem.F.slot_dict_getitem.lookup hs (thn (ho.run pins s σ H _ I h) fun u s1 ⟨x, H1, I1, rx, q1⟩ => thn (hi.run pins s1 σ H1 _ I1 q1) fun iv s2 ⟨y, H2, I2, ry, b, a, k, xs, c, u2, v2, ex, ey, hk, hd, ea, rv, q2⟩ => ?_)
  subst ex ey
  cases rx; cases ry
  obtain ⟨h1, h2, h3, _⟩ := dtb_at I2 hd
  exact ⟨h3, wpAny_getItem_heap (knd := tk X) hu (key_is I2 hk) h1 ea ⟨v2, H2, I2.tok _, rv, q2⟩⟩
def fDGet : DR2 := fun x y μ Φ => ∃ k, y = keyD k ∧ rdDct x μ fun kvs => match lookD kvs k with | some d => Φ d μ | none => False
theorem sim_dGet {B : Bd} : SimR2 B (rDGet B.P B.w B.K) fDGet := by
  intro Z F H σ ρ μ Φ x y dx dy Q w rx ry ⟨k, e, h⟩ kk
  subst e
  obtain ⟨b, rfl, hb⟩ := key_rep ry
  obtain ⟨a, xs, kvs, rfl, hd, r, h⟩ := rdDct_ok w rx h
  rcases repk_look (k := k) r with ⟨h1, h2⟩ | ⟨c, u, v, d, h1, h2, rv, rd⟩
  · rw [h2] at h; exact h.elim
  · rw [h2] at h
    exact ⟨b, a, k, xs, c, u, v, rfl, rfl, sqt_mono w.sub hb, hd, h1, rv, kk v d μ F H (Same.refl F) w rd h⟩
theorem q_dGet (hu : X.A.units + 1 < cLine) (ho : QE X o de) (hi : QE X i di) (hs : NoSl i := by exact fun _ _ => rfl) : QE X (.Subscript o i pos) (dOp fDGet de di) := pe_imp (pe_dGet hu ho hi hs) (sim_op sim_dGet)
/-! ### d[k] = v -/
def rDSet (P : Program) (w : World) (K : PySem.W.Frag) : TSet := fun o i v H Q => ∃ b a k xs, o = .ref a ∧ i = .ref b ∧ SqT K H b (k.map leafV) ∧ DTb P w K H a xs ∧ xs.length < sizeLine ∧
  ∀ u es ep, RelV v u → es.toList = (storedH xs k b u).map (entryOfKey (tupleKind (leafKind P w))) → ((storedH xs k b u).map (·.1)).Nodup → Q (upd H a (dno a es ep))
theorem stored_len {k : List Leaf} (xs : List (List Leaf × Addr × Value)) (b : Addr) (u : Value) : (storedH xs k b u).length ≤ xs.length + 1 := storedH_length xs k b u
theorem set_dct (hu : X.A.units + 1 < cLine) : PSet X (rDSet X.prog X.w X.K) := by
  intro pins s σ H o i v ov iv u Q I ro ri rv ⟨b, a, k, xs, eo, ei, hk, hd, hz, q⟩
  subst eo ei
  cases ro; cases ri
  obtain ⟨⟨es0, ep0, e0, _⟩, _⟩ := id hd
  obtain ⟨h1, h2, h3, _⟩ := dtb_at I hd
  refine wpAny_setItem_heap (knd := tk X) hu (key_is I hk) h1 (fun h' d' sb => ?_) (Nat.le_of_lt hz)
  obtain ⟨es, ep, e1, e2, I'⟩ := inv_stored (t := s.toks + (tk X).draws k) I h2 e0 d' sb
  exact ⟨_, I', q u es ep rv e1 e2⟩
/-- a dict that may change, at a -/
theorem mut_dct {B : Bd} {Z : Zc} {F H : Hp} {σ : L2.St} {ρ : Rho} {μ : Mu} {a : Addr} {kvs kws : List (List Leaf × D)} {es : Array DictEntry} {ep : Nat} {ys : List (List Leaf × Addr × Value)} (w : WS B Z F H σ ρ μ) (h : μ a = some (.dct kvs)) (e : es.toList = ys.map (entryOfKey (tupleKind (leafKind B.P B.w)))) (n : (ys.map (·.1)).Nodup) (l : ys.length ≤ sizeLine) (r : Repk B F ys kws) :
    WS B Z F (upd H a (dno a es ep)) σ ρ (mup μ a (.dct kws)) := w.mut (m' := .dct kws) h ⟨es, ep, ys, upd_same, ⟨e, n, l⟩, r⟩
def gDSet (de di : DE) : DG := fun v ρ μ Φ => de ρ μ fun x μ1 => di ρ μ1 fun y μ2 => match x with
  | .v (.ref a) => ∃ k kvs, y = keyD k ∧ μ2 a = some (.dct kvs) ∧ lenOk kvs.length (Φ ρ (mup μ2 a (.dct (putD kvs k v))))
  | _ => False
theorem g_dct (hu : X.A.units + 1 < cLine) (ho : QE X o de) (hi : QE X i di)
    (ha : ∀ v, assign (.Subscript o i pos) X.env v = (do
      let ov ← holding [v] (eval o X.env)
      let iv ← holding [v, ov] (eval i X.env)
      standAt pos
      holding [v, ov, iv] (setItem ov iv v)
      release [v, ov, iv] []) := by intro _; rfl) : QG X (.Subscript o i pos) (gDSet de di) := by
  refine pg_imp (pg_sub ho hi (set_dct hu) ha) ?_
  rintro v σ H Q ⟨Z, F, ρ, μ, d, Φ, w, r, h, k⟩
  refine ⟨Z, F, ρ, μ, _, w, h, fun x dx μ1 F1 H1 s1 w1 r1 h1 => ?_⟩
  refine ⟨Z, F1, ρ, μ1, _, w1, h1, fun y dy μ2 F2 H2 s2 w2 r2 h2 => ?_⟩
  split at h2
  · rename_i a
    cases r1
    obtain ⟨kk, kvs, e, em, h2⟩ := h2
    subst e
    obtain ⟨b, rfl, hb⟩ := key_rep r2
    obtain ⟨_, z, h2⟩ := h2.elim
    obtain ⟨_, _, es, ep, xs, q, e2, t⟩ := w2.muts _ _ em
    have el : xs.length = kvs.length := t.length
    have hd : DTb X.prog X.w X.K H2 a xs := dtb_of (B := Bof X) w2.sub q e2 t
    have hb2 : SqT X.K H2 b (kk.map leafV) := sqt_mono w2.sub hb
    have lz : xs.length < sizeLine := by rw [el]; exact z
    show rDSet X.prog X.w X.K (.ref a) (.ref b) v H2 fun H3 => Q σ H3
    refine ⟨b, a, kk, xs, rfl, rfl, hb2, hd, lz, fun u es' ep' rv e3 e4 => ?_⟩
    have l1 : (storedH xs kk b u).length ≤ sizeLine := Nat.le_trans (stored_len (k := kk) xs b u) (Nat.succ_le_of_lt (by rw [el]; exact z))
    exact k _ _ _ F2 _ (s1.trans s2) (mut_dct w2 em e3 e4 l1 (repk_put t hb rv (r.mono (s1.trans s2)))) h2
  · exact h2.elim
/-- xs[i] = v of a list -/
def gLSet (de di : DE) : DG := fun v ρ μ Φ => de ρ μ fun x μ1 => di ρ μ1 fun y μ2 => match x, y with
  | .v (.ref l), .v (.int i) => ∃ ys j, μ2 l = some (.lst ys) ∧ ixN ys.length i = some j ∧ Φ ρ (mup μ2 l (.lst (ys.set j v)))
  | _, _ => False
theorem g_lst (ho : QE X o de) (hi : QE X i di)
    (ha : ∀ v, assign (.Subscript o i pos) X.env v = (do
      let ov ← holding [v] (eval o X.env)
      let iv ← holding [v, ov] (eval i X.env)
      standAt pos
      holding [v, ov, iv] (setItem ov iv v)
      release [v, ov, iv] []) := by intro _; rfl) : QG X (.Subscript o i pos) (gLSet de di) := by
  refine pg_imp (pg_sub ho hi set_list ha) ?_
  rintro v σ H Q ⟨Z, F, ρ, μ, d, Φ, w, r, h, k⟩
  refine ⟨Z, F, ρ, μ, _, w, h, fun x dx μ1 F1 H1 s1 w1 r1 h1 => ?_⟩
  refine ⟨Z, F1, ρ, μ1, _, w1, h1, fun y dy μ2 F2 H2 s2 w2 r2 h2 => ?_⟩
  split at h2
  · rename_i l i
    cases r1; cases r2
    obtain ⟨ys, j, em, ej, h2⟩ := h2
    obtain ⟨_, _, vs, hv, t⟩ := w2.muts _ _ em
    refine ⟨l, vs, i, j, rfl, rfl, hv, by rw [t.length]; exact ej, ?_⟩
    exact k _ _ _ F2 _ (s1.trans s2) (w2.mut (m' := .lst (ys.set j d)) em ⟨_, upd_same, t.set (r.mono (s1.trans s2)) j⟩) h2
  · exact h2.elim
/-! ### d[k] -= e, of ints -/
def rDAug (P : Program) (w : World) (K : PySem.W.Frag) (td ti tv : TE) (g : Int → Int → Int) : TS := fun Dn σ H => td σ H fun x H1 => ti σ H1 fun y H2 => ∃ a b k xs c n t, x = .ref a ∧ y = .ref b ∧ SqT K H2 b (k.map leafV) ∧ DTb P w K H2 a xs ∧ atKey xs k = some (c, Value.int n t) ∧
  tv σ H2 fun z H3 => ∃ j, z = .int j ∧ rDSet P w K (.ref a) (.ref b) (.int (g n j)) H3 fun H4 => Dn.nx σ H4
theorem ps_dSubAug {tv : TE} {value : Expr} (hu : X.A.units + 1 < cLine) (ho : PE X o td) (hi : PE X i ti) (hv : PE X e tv)
    (ha : ∀ ov iv new, augStore i ov iv new = (do holding [new, ov, iv] (setItem ov iv new); release [new, ov, iv] []; pure .next)) : PS X (.AugAssign (.Subscript o i tpos) .Sub e pos) (rDAug X.prog X.w X.K td ti tv fun n j => n - j) := by
  refine ⟨fun pins s σ H Dn I h => ?_⟩
  refine wpAny_AugAssign_SubscriptAny (thn (ho.run pins s σ H _ I h) fun u s1 ⟨x, H1, I1, rx, q1⟩ => thn (hi.run pins s1 σ H1 _ I1 q1) fun iv s2 ⟨y, H2, I2, ry, a, b, k, xs, c, n, t, ex, ey, hk, hd, ea, q2⟩ => ?_) ha
  subst ex ey
  cases rx; cases ry
  obtain ⟨h1, h2, h3, _⟩ := dtb_at I2 hd
  refine wpAny_getItem_heap (knd := tk X) hu (key_is I2 hk) h1 ea ?_
  refine thn (hv.run pins _ σ H2 _ (I2.tok _) q2) fun w2 s4 ⟨y2, H3, I4, ry2, j, ez, q3⟩ => ?_
  subst ez
  refine thn (in_sub pins s4 σ H3 (.int n) (.int j) _ _ (fun z H4 => z = .int (n - j) ∧ H4 = H3) I4 ⟨t, rfl⟩ ry2 ⟨n, j, rfl, rfl, rfl, rfl⟩) fun w3 s5 ⟨z, H4, I5, rz, ez, eH⟩ => ?_
  subst ez eH
  refine thn (set_dct hu pins s5 σ H4 (.ref a) (.ref b) (.int (n - j)) _ _ w3 _ I5 rfl rfl rz q3) fun _ s6 ⟨H5, I6, q6⟩ => ?_
  exact ⟨σ, H5, I6, q6⟩
def dDAug (de di dv : DE) (g : Int → Int → Int) : DS := fun Dn ρ μ => de ρ μ fun x μ1 => di ρ μ1 fun y μ2 => match x with
  | .v (.ref a) => ∃ k kvs n, y = keyD k ∧ μ2 a = some (.dct kvs) ∧ lookD kvs k = some (dI n) ∧ dv ρ μ2 fun z μ3 => match z with
    | .v (.int j) => ∃ kws, μ3 a = some (.dct kws) ∧ lenOk kws.length (Dn.nx ρ (mup μ3 a (.dct (putD kws k (dI (g n j))))))
    | _ => False
  | _ => False
theorem s_dSub {dv : DE} (hu : X.A.units + 1 < cLine) (ho : QE X o de) (hi : QE X i di) (hv : QE X e dv)
    (ha : ∀ ov iv new, augStore i ov iv new = (do holding [new, ov, iv] (setItem ov iv new); release [new, ov, iv] []; pure .next) := by intro _ _ _; rfl) : QS X (.AugAssign (.Subscript o i tpos) .Sub e pos) (dDAug de di dv fun n j => n - j) := by
  refine ps_imp (ps_dSubAug (value := e) hu ho hi hv ha) ?_
  rintro E σ H ⟨Z, F, ρ, μ, Dn, w, h, k⟩
  refine ⟨Z, F, ρ, μ, _, w, h, fun x dx μ1 F1 H1 s1 w1 r1 h1 => ?_⟩
  refine ⟨Z, F1, ρ, μ1, _, w1, h1, fun y dy μ2 F2 H2 s2 w2 r2 h2 => ?_⟩
  split at h2
  · rename_i a
    cases r1
    obtain ⟨kk, kvs, n, e, em, en, h2⟩ := h2
    subst e
    obtain ⟨b, rfl, hb⟩ := key_rep r2
    obtain ⟨_, _, es, ep, xs, q, e2, t⟩ := w2.muts _ _ em
    rcases repk_look (k := kk) t with ⟨z1, z2⟩ | ⟨c, u, v, d, z1, z2, rv, rd⟩
    · rw [z2] at en; cases en
    · rw [z2] at en; cases en; cases rd
      obtain ⟨tt, rfl⟩ := (show ∃ t, u = Value.int n t from rv)
      have hd : DTb X.prog X.w X.K H2 a xs := dtb_of (B := Bof X) w2.sub q e2 t
      have hb2 : SqT X.K H2 b (kk.map leafV) := sqt_mono w2.sub hb
      refine ⟨a, b, kk, xs, c, n, tt, rfl, rfl, hb2, hd, z1, Z, F2, ρ, μ2, _, w2, h2, fun z dz μ3 F3 H3 s3 w3 r3 h3 => ?_⟩
      split at h3
      · rename_i j
        cases r3
        obtain ⟨kws, em3, h3⟩ := h3
        obtain ⟨_, l3, h3⟩ := h3.elim
        obtain ⟨_, _, es3, ep3, ys, q3, e3, t3⟩ := w3.muts _ _ em3
        have el : ys.length = kws.length := t3.length
        have hd3 : DTb X.prog X.w X.K H3 a ys := dtb_of (B := Bof X) w3.sub q3 e3 t3
        have hb3 : SqT X.K H3 b (kk.map leafV) := sqt_mono w3.sub (sqt_mono s3 hb)
        have lz : ys.length < sizeLine := by rw [el]; exact l3
        refine ⟨j, rfl, ?_⟩
        show rDSet X.prog X.w X.K (.ref a) (.ref b) (.int (n - j)) H3 fun H4 => E.nx σ H4
        refine ⟨b, a, kk, ys, rfl, rfl, hb3, hd3, lz, fun u es' ep' rv' e4 e5 => ?_⟩
        have l1 : (storedH ys kk b u).length ≤ sizeLine := Nat.le_trans (stored_len (k := kk) ys b u) (Nat.succ_le_of_lt (by rw [el]; exact l3))
        exact k.nx _ _ _ F3 _ (s1.trans (s2.trans s3)) (mut_dct w3 em3 e4 e5 l1 (repk_put t3 (sqt_mono s3 hb) rv' (.v _))) h3
      · exact h3.elim
  · exact h2.elim
end
end K3
set_option Elab.async false
set_option linter.all false
set_option maxRecDepth 100000
set_option maxHeartbeats 1000000
/-! KV: dicts by tuples: setdefault, get, displays, dict(pairs), list(d), != {}, comprehensions. -/
namespace K3
open PySem PySem.Spec PyProof.Rows L2

/-! ### methods -/
def tBMd (P : Program) (w : World) (K : PySem.W.Frag) (r : V → List V → Hp → VK → Prop) (to : TE) (t : TA) : TE := fun σ H Q => to σ H fun x H1 => (∃ a xs, x = .ref a ∧ DTb P w K H1 a xs) ∧ t σ H1 fun us H2 => r x us H2 Q
section
variable {X : Cx} {o e : Expr} {es : List Expr} {to : TE} {t : TA} {de : DE} {da : DA} {name : Str} {apos cpos pos : Pos} {id : String} {r : V → List V → Hp → VK → Prop}
theorem pe_bmd (slot : Slot "dict" name id) (hty : typeOf (.builtin id) = pure (.type "method_descriptor")) (hm : MtR X id r) (ho : PE X o to) (ha : PA X (e :: es) t)
    (hbase : attributeBase o name X.env (eval o X.env) = eval o X.env := by rfl)
    (hfew : ((backTo cpos (starEach (e :: es) X.env)).all (fun x => !x.1) && (backToKw cpos (keywordEach [] X.env)).all (fun x => x.1.isSome)
      && decide ((e :: es).length + ([] : List Keyword).length + (if ([] : List Keyword).isEmpty then 0 else 1) < 30)) = true := by rfl)
    (hline : (apos.endLine == cpos.line) = true := by rfl) (hs : starEach (e :: es) X.env = (false, eval e X.env) :: starEach es X.env := by rfl) (hplain : (backTo cpos (starEach es X.env)).any (·.1) = false := by rfl) :
    PE X (.Call (.Attribute o name apos) (e :: es) [] cpos) (tBMd X.prog X.w X.K r to t) := by
  refine ⟨fun pins s σ H Q I h => ?_⟩
  refine wpAny_Call_method_late hbase hfew hline rfl (thn (ho.run pins s σ H _ I h) fun v s1 ⟨x, H1, I1, r1, ty, q1⟩ => ?_)
  obtain ⟨a, xs, ex, hd⟩ := ty
  subst ex
  cases r1
  obtain ⟨_, _, h3, h4⟩ := dtb_at I1 hd
  refine ⟨"dict", id, PySem.F.plainAttrs_dict, slot, hty, h3, h4, ?_⟩
  have hA := ha.run cpos pins s1 σ H1 _ I1 q1
  rw [hs] at hA ⊢
  refine Calls.callWith_builtin (by show (false || (backTo cpos (starEach es X.env)).any (·.1)) = false; rw [hplain] <;> rfl) (Calls.evalArgs_plain ?_)
  exact thn hA fun us s2 ⟨vs, H2, I2, r2, q2⟩ => hm pins s2 σ H2 (.ref a) vs (.ref a) us Q I2 rfl r2 q2
/-- d.setdefault(k, z) -/
def rSetd (P : Program) (w : World) (K : PySem.W.Frag) : V → List V → Hp → VK → Prop := fun x us H Q => ∃ a b k xs z, x = .ref a ∧ us = [.ref b, z] ∧ SqT K H b (k.map leafV) ∧ DTb P w K H a xs ∧ xs.length < sizeLine ∧
  ((∃ c u v, atKey xs k = some (c, u) ∧ RelV v u ∧ Q v H) ∨ (atKey xs k = none ∧ ∀ u es ep, RelV z u → es.toList = (storedH xs k b u).map (entryOfKey (tupleKind (leafKind P w))) → ((storedH xs k b u).map (·.1)).Nodup → Q z (upd H a (dno a es ep))))
theorem mt_setd (hu : X.A.units + 1 < cLine) : MtR X "dict.setdefault" (rSetd X.prog X.w X.K) := by
  intro pins s σ H x us v ws Q I rx rs ⟨a, b, k, xs, z, ex, ea, hk, hd, hz, q⟩
  subst ex ea
  cases rx
  obtain ⟨w1, w2, rfl, r1, r2⟩ := rs.two
  cases r1
  obtain ⟨⟨es0, ep0, e0, _⟩, _⟩ := _root_.id hd
  obtain ⟨h1, h2, h3, _⟩ := dtb_at I hd
  refine call_setdefault_heap (knd := tk X) hu (key_is I hk) h2 h1 (fun p hp => ?_) (fun hn h' d' sb => ?_) (Nat.le_of_lt hz)
  · rcases q with ⟨c, u, v, ea, rv, q⟩ | ⟨ea, _⟩
    · rw [ea] at hp; cases hp
      exact ⟨v, H, I.tok _, rv, q⟩
    · rw [ea] at hp; cases hp
  · rcases q with ⟨c, u, v, ea, rv, q⟩ | ⟨ea, q⟩
    · rw [ea] at hn; cases hn
    · obtain ⟨es, ep, e1, e2, I'⟩ := inv_stored (t := s.toks + (tk X).draws k) I h2 e0 d' sb
      exact ⟨z, _, I', r2, q w2 es ep r2 e1 e2⟩
def dSetd (de : DE) (da : DA) : DE := fun ρ μ Φ => de ρ μ fun x μ1 => match x with
  | .v (.ref a) => (∃ kvs, μ1 a = some (.dct kvs)) ∧ da ρ μ1 fun ys μ2 => (match ys with
    | [y, z] => ∃ k kvs, y = keyD k ∧ μ2 a = some (.dct kvs) ∧ lenOk kvs.length (match lookD kvs k with | some d => Φ d μ2 | none => Φ z (mup μ2 a (.dct (kvs ++ [(k, z)]))))
    | _ => False)
  | _ => False
theorem put_none {kvs : List (List Leaf × D)} {k : List Leaf} {d : D} (h : lookD kvs k = none) : putD kvs k d = kvs ++ [(k, d)] := by
  unfold putD; rw [h] <;> rfl
theorem q_setd (hu : X.A.units + 1 < cLine) (ho : QE X o de) (ha : QA X (e :: es) da) (hbase : attributeBase o "setdefault" X.env (eval o X.env) = eval o X.env := by rfl)
    (hfew : ((backTo cpos (starEach (e :: es) X.env)).all (fun x => !x.1) && (backToKw cpos (keywordEach [] X.env)).all (fun x => x.1.isSome)
      && decide ((e :: es).length + ([] : List Keyword).length + (if ([] : List Keyword).isEmpty then 0 else 1) < 30)) = true := by rfl)
    (hline : (apos.endLine == cpos.line) = true := by rfl) (hs : starEach (e :: es) X.env = (false, eval e X.env) :: starEach es X.env := by rfl) (hplain : (backTo cpos (starEach es X.env)).any (·.1) = false := by rfl) :
    QE X (.Call (.Attribute o "setdefault" apos) (e :: es) [] cpos) (dSetd de da) := by
  refine pe_imp (pe_bmd PySem.F.slot_dict_setdefault PySem.F.type_dict_setdefault (mt_setd hu) ho ha hbase hfew hline hs hplain) ?_
  rintro σ H Q ⟨Z, F, ρ, μ, Φ, w, h, k⟩
  refine ⟨Z, F, ρ, μ, _, w, h, fun v d μ1 F1 H1 s1 w1 r1 h1 => ?_⟩
  split at h1
  · rename_i a
    cases r1
    obtain ⟨⟨kvs0, em0⟩, h1⟩ := h1
    obtain ⟨_, _, es0, ep0, xs0, q0, e0, t0⟩ := w1.muts _ _ em0
    have hd0 : DTb X.prog X.w X.K H1 a xs0 := dtb_of (B := Bof X) w1.sub q0 e0 t0
    refine ⟨⟨a, xs0, rfl, hd0⟩, Z, F1, ρ, μ1, _, w1, h1, fun us ds μ2 F2 H2 s2 w2 r2 h2 => ?_⟩
    split at h2
    · rename_i y z
      cases r2 with
      | cons ra rt => cases rt with
        | cons rb rt =>
          cases rt
          rename_i vz
          obtain ⟨kk, kvs, e, em, h2⟩ := h2
          subst e
          obtain ⟨b, rfl, hb⟩ := key_rep ra
          obtain ⟨_, lz, h2⟩ := h2.elim
          obtain ⟨_, _, es, ep, xs, q, e2, t⟩ := w2.muts _ _ em
          have el : xs.length = kvs.length := t.length
          have hd : DTb X.prog X.w X.K H2 a xs := dtb_of (B := Bof X) w2.sub q e2 t
          have hb2 : SqT X.K H2 b (kk.map leafV) := sqt_mono w2.sub hb
          have lz2 : xs.length < sizeLine := by rw [el]; exact lz
          show rSetd X.prog X.w X.K (.ref a) [.ref b, vz] H2 Q
          refine ⟨a, b, kk, xs, vz, rfl, rfl, hb2, hd, lz2, ?_⟩
          rcases repk_look (k := kk) t with ⟨z1, z2⟩ | ⟨c, u, v, d, z1, z2, rv, rd⟩
          · rw [z2] at h2
            refine .inr ⟨z1, fun u es' ep' rv e3 e4 => ?_⟩
            have l1 : (storedH xs kk b u).length ≤ sizeLine := Nat.le_trans (stored_len (k := kk) xs b u) (Nat.succ_le_of_lt lz2)
            have rp : Repk (Bof X) F2 (storedH xs kk b u) (kvs ++ [(kk, z)]) := by
              have := repk_put (k := kk) t hb rv rb
              rwa [put_none z2] at this
            exact k _ _ _ F2 _ (s1.trans s2) (mut_dct w2 em e3 e4 l1 rp) rb h2
          · rw [z2] at h2
            exact .inl ⟨c, u, v, z1, rv, k v d μ2 F2 H2 (s1.trans s2) w2 rd h2⟩
    · exact h2.elim
  · exact h1.elim
/-- d.get(k) -/
def rGetd (P : Program) (w : World) (K : PySem.W.Frag) : V → List V → Hp → VK → Prop := fun x us H Q => ∃ a b k xs, x = .ref a ∧ us = [.ref b] ∧ SqT K H b (k.map leafV) ∧ DTb P w K H a xs ∧
  ((∃ c u v, atKey xs k = some (c, u) ∧ RelV v u ∧ Q v H) ∨ (atKey xs k = none ∧ Q .non H))
theorem mt_getd (hu : X.A.units + 1 < cLine) : MtR X "dict.get" (rGetd X.prog X.w X.K) := by
  intro pins s σ H x us v ws Q I rx rs ⟨a, b, k, xs, ex, ea, hk, hd, q⟩
  subst ex ea
  cases rx
  obtain ⟨w1, rfl, r1⟩ := rs.one
  cases r1
  obtain ⟨h1, h2, h3, _⟩ := dtb_at I hd
  refine get_keyed (knd := tk X) (kvs := pairsH xs) hu (key_is I hk) h2 ⟨xs, h1, rfl⟩ ?_
  rw [valueAt_pairsH]
  rcases q with ⟨c, u, v, ea, rv, q⟩ | ⟨ea, q⟩
  · rw [ea]
    exact ⟨v, H, I.tok _, rv, q⟩
  · rw [ea]
    exact ⟨.non, H, I.tok _, rfl, q⟩
def dGetd (de : DE) (da : DA) : DE := fun ρ μ Φ => de ρ μ fun x μ1 => rdDct x μ1 fun _ => da ρ μ1 fun ys μ2 => match ys with
  | [y] => ∃ k, y = keyD k ∧ rdDct x μ2 fun kvs => match lookD kvs k with | some d => Φ d μ2 | none => Φ dN μ2
  | _ => False
theorem q_getd (hu : X.A.units + 1 < cLine) (ho : QE X o de) (ha : QA X (e :: es) da) (hbase : attributeBase o "get" X.env (eval o X.env) = eval o X.env := by rfl)
    (hfew : ((backTo cpos (starEach (e :: es) X.env)).all (fun x => !x.1) && (backToKw cpos (keywordEach [] X.env)).all (fun x => x.1.isSome)
      && decide ((e :: es).length + ([] : List Keyword).length + (if ([] : List Keyword).isEmpty then 0 else 1) < 30)) = true := by rfl)
    (hline : (apos.endLine == cpos.line) = true := by rfl) (hs : starEach (e :: es) X.env = (false, eval e X.env) :: starEach es X.env := by rfl) (hplain : (backTo cpos (starEach es X.env)).any (·.1) = false := by rfl) :
    QE X (.Call (.Attribute o "get" apos) (e :: es) [] cpos) (dGetd de da) := by
  refine pe_imp (pe_bmd PySem.F.slot_dict_get PySem.F.type_dict_get (mt_getd hu) ho ha hbase hfew hline hs hplain) ?_
  rintro σ H Q ⟨Z, F, ρ, μ, Φ, w, h, k⟩
  refine ⟨Z, F, ρ, μ, _, w, h, fun v d μ1 F1 H1 s1 w1 r1 h1 => ?_⟩
  obtain ⟨a, xs0, kvs0, rfl, hd0, _, h1⟩ := rdDct_ok w1 r1 h1
  refine ⟨⟨a, xs0, rfl, hd0⟩, Z, F1, ρ, μ1, _, w1, h1, fun us ds μ2 F2 H2 s2 w2 r2 h2 => ?_⟩
  split at h2
  · cases r2 with
    | cons ra rt =>
      cases rt
      obtain ⟨kk, e, h2⟩ := h2
      subst e
      obtain ⟨b, rfl, hb⟩ := key_rep ra
      obtain ⟨a', xs, kvs, ea, hd, t, h2⟩ := rdDct_ok w2 (r1.mono s2) h2
      cases ea
      have hb2 : SqT X.K H2 b (kk.map leafV) := sqt_mono w2.sub hb
      refine ⟨a, b, kk, xs, rfl, rfl, hb2, hd, ?_⟩
      rcases repk_look (k := kk) t with ⟨z1, z2⟩ | ⟨c, u, v, d, z1, z2, rv, rd⟩
      · rw [z2] at h2
        exact .inr ⟨z1, k _ _ μ2 F2 H2 (s1.trans s2) w2 (.v _) h2⟩
      · rw [z2] at h2
        exact .inl ⟨c, u, v, z1, rv, k v d μ2 F2 H2 (s1.trans s2) w2 rd h2⟩
  · exact h2.elim

/-! ### displays -/
def tDNo : TE := fun _ H Q => ∀ p, H p = none → Q (.ref p) (upd H p (dno p #[] 0))
theorem dno_new {P : Program} {w : World} {H : Hp} (h : Heap) (hb : sysModules < h.objs.size) : ObjOk P w H (h.push { cls := .type "dict", data := .dict #[] }) h.objs.size (dno h.objs.size #[] 0) :=
  ⟨⟨beq_eq_false_iff_ne.mpr (Ne.symm (Nat.ne_of_lt hb)), _, Heap.get?_push_size _ rfl, ⟨rfl, rfl, rfl⟩, rfl⟩, ⟨_, Heap.get?_push_size _ rfl⟩, fun h1 h2 p k => by
    first
      | exact ⟨k.1, k.2.choose, p _ k.2.choose_spec.1, k.2.choose_spec.2⟩
      | exact ⟨p.1, p.2.choose, k _ p.2.choose_spec.1, p.2.choose_spec.2⟩⟩
theorem pe_dno : PE X (.Dict [] [] pos) tDNo := ⟨fun pins s σ H Q I h =>
  wpAny_Dict_empty ⟨.ref s.heap.objs.size, _, I.laid (t' := s.toks) (fun b u q => Heap.get?_push_of_some _ q) (Nat.le_refl _) (dno_new s.heap I.big), rfl, h _ (I.hok.fresh (Nat.le_refl _))⟩⟩
/-- {}: may change | frozen -/
def dDctM : DE := fun _ μ Φ => ∀ p, μ p = none → Φ (dR p) (mup μ p (.dct []))
theorem des_nil {B : Bd} : DEs B #[] [] := ⟨rfl, List.nodup_nil, Nat.zero_le _⟩
theorem q_dctM : QE X (.Dict [] [] pos) dDctM := by
  refine pe_imp pe_dno ?_
  rintro σ H Q ⟨Z, F, ρ, μ, Φ, w, h, k⟩ p hp
  exact k _ _ _ F _ (Same.refl F) (w.newM (m := .dct []) hp ⟨#[], 0, [], upd_same, des_nil, .nil⟩) (.v _) (h p (w.freshM hp))
def dDctF : DE := fun _ μ Φ => Φ (.dct []) μ
theorem q_dctF : QE X (.Dict [] [] pos) dDctF := by
  refine pe_imp pe_dno ?_
  rintro σ H Q ⟨Z, F, ρ, μ, Φ, w, h, k⟩ p hp
  exact k _ _ _ _ _ (same_new (w.freshF hp)) (w.newF hp) (.dct upd_same des_nil .nil) h
/-- {k: v} -/
def tDNo1 (P : Program) (w : World) (K : PySem.W.Frag) (trs : List (TE × TE)) : TE := fun σ H Q => ∀ p, H p = none → tPairs trs σ (upd H p (dno p #[] 0)) fun ps H2 => ∃ b z ep0, ∃ k : List Leaf, ps = [(V.ref b, z)] ∧ SqT K H2 b (k.map leafV) ∧ H2 p = some (dno p #[] ep0) ∧
  ∀ u es ep, RelV z u → es.toList = [(k, b, u)].map (entryOfKey (tupleKind (leafKind P w))) → Q (.ref p) (upd H2 p (dno p es ep))
theorem pe_dno1 {kx vx : Expr} {ta tv : TE} (hu : X.A.units < cLine) (hk : PE X kx ta) (hv : PE X vx tv)
    (hshape : (evalEachOpt [some kx] X.env).zip ((evalEach [vx] X.env).map fun v => do let x ← v; standAt pos; pure x) = (pairTrees [some kx] [vx] X.env pos).map fun p => (some p.1, p.2) := by rfl) : PE X (.Dict [some kx] [vx] pos) (tDNo1 X.prog X.w X.K [(ta, tv)]) := by
  refine ⟨fun pins s σ H Q I h => ?_⟩
  have hn : H s.heap.objs.size = none := I.hok.fresh (Nat.le_refl _)
  have I1 := I.laid (a := s.heap.objs.size) (t' := s.toks) (h' := s.heap.push { cls := .type "dict", data := .dict #[] }) (fun b u q => Heap.get?_push_of_some _ q) (Nat.le_refl _) (dno_new s.heap I.big)
  have pp := pps_cons (pos := pos) hk hv (pps_nil (X := X))
  rw [arm_eval_Dict, hshape, dictDisplay_pairs (pairTrees [some kx] [vx] X.env pos) (fun z => by cases z) (show (pairTrees [some kx] [vx] X.env pos).length < 17 from show 1 < 17 by decide)]
  refine wpAny_bind (wpAny_standAt (wpAny_bind (wpAny_subDictH (knd := K3.tk X) (Q := fun d s' => wpAny (model X.prog X.w) X.A (pure (Value.ref d)) (EP X pins σ Q) X.xe s') hu (show 1 ≤ 15 by decide) ?_)))
  refine thn (pp.run pins _ σ _ _ I1 (h _ hn)) fun vs s2 ⟨ps, H2, I2, rel, b, z, ep0, k, eps, hb, hd, q⟩ => ?_
  subst eps
  cases rel with
  | @cons _ kv _ _ r1 rest =>
    cases rest
    obtain ⟨rk, rz⟩ := r1
    obtain ⟨kx', u⟩ := kv
    obtain rfl : kx' = Value.ref b := rk
    obtain ⟨hs, o, ho, hx, hdat⟩ := dno_at I2.hok hd
    refine ⟨[(k, b, u)], ⟨rfl, rfl, key_is I2 hb, trivial⟩, ⟨o, #[], ep0, ho, hx, hdat, rfl, (fun x m => by cases m), List.nodup_nil⟩, fun h' tk d' sb => ?_⟩
    obtain ⟨es, ep, e1, e2, I'⟩ := inv_stored (t := tk) I2 hs hd d' sb
    exact wpAny_pure ⟨.ref s.heap.objs.size, _, I', rfl, q u es ep rz e1⟩
def dDct1M (dk dv : DE) : DE := fun ρ μ Φ => ∀ p, μ p = none → dk ρ (mup μ p (.dct [])) fun y μ1 => dv ρ μ1 fun z μ2 => ∃ k, y = keyD k ∧ μ2 p = some (.dct []) ∧ Φ (dR p) (mup μ2 p (.dct [(k, z)]))
theorem q_dct1M {kx vx : Expr} {dk dv : DE} (hu : X.A.units < cLine) (hk : QE X kx dk) (hv : QE X vx dv) (hshape : (evalEachOpt [some kx] X.env).zip ((evalEach [vx] X.env).map fun v => do let x ← v; standAt pos; pure x) = (pairTrees [some kx] [vx] X.env pos).map fun p => (some p.1, p.2) := by rfl) :
    QE X (.Dict [some kx] [vx] pos) (dDct1M dk dv) := by
  refine pe_imp (pe_dno1 hu hk hv hshape) ?_
  rintro σ H Q ⟨Z, F, ρ, μ, Φ, w, h, k⟩ p hp
  have w0 : WS (Bof X) Z F (upd H p (dno p #[] 0)) σ ρ (mup μ p (.dct [])) := w.newM (m := .dct []) hp ⟨#[], 0, [], upd_same, des_nil, .nil⟩
  refine ⟨Z, F, ρ, _, _, w0, h p (w.freshM hp), fun y dy μ1 F1 H1 s1 w1 r1 h1 => ?_⟩
  refine ⟨Z, F1, ρ, μ1, _, w1, h1, fun z dz μ2 F2 H2 s2 w2 r2 h2 => ?_⟩
  obtain ⟨kk, e, em, h2⟩ := h2
  subst e
  obtain ⟨b, rfl, hb⟩ := key_rep (r1.mono s2)
  obtain ⟨_, _, es0, ep0, xs, q, e0, t⟩ := w2.muts _ _ em
  cases t
  have ez : es0 = #[] := by
    have := e0.1
    rw [List.map_nil] at this
    exact Array.toList_eq_nil_iff.mp this
  subst ez
  have hb2 : SqT X.K H2 b (kk.map leafV) := sqt_mono w2.sub hb
  refine ⟨b, z, ep0, kk, rfl, hb2, q, fun u es ep rz e1 => ?_⟩
  exact k _ _ _ F2 _ (s1.trans s2) (mut_dct w2 em (ys := [(kk, b, u)]) e1 (by simp) (show 1 ≤ sizeLine by decide) (.cons hb rz r2 .nil)) (.v _) h2

/-! ### list(d), d frozen -/
def rListDn (P : Program) (w : World) (K : PySem.W.Frag) : List V → Hp → VK → Prop := fun us H Q => ∃ a xs, us = [.ref a] ∧ DTb P w K H a xs ∧ ∀ p, H p = none → Q (.ref p) (upd H p (.lst (xs.map fun x => V.ref x.2.1)))
theorem vals_at : ∀ {vs : List V} {us : List Value}, vs.length = us.length → (∀ (j : Nat) (x : V) (u : Value), vs[j]? = some x → us[j]? = some u → RelV x u) → Vals vs us
  | [], [], _, _ => .nil
  | [], _ :: _, l, _ => by cases l
  | _ :: _, [], l, _ => by cases l
  | x :: vs, u :: us, l, f => .cons (f 0 x u rfl rfl) (vals_at (Nat.succ.inj l) fun j y v h1 h2 => f (j + 1) y v (by simpa using h1) (by simpa using h2))
theorem call_listDn (hc : X.calm = true) : CallR X (.type "list") (rListDn X.prog X.w X.K) := by
  intro pins s σ H us ws Q I r ⟨a, xs, e, hd, q⟩
  subst e
  obtain ⟨u, rfl, rx⟩ := r.one
  cases rx
  obtain ⟨⟨es, ep, h0, e0⟩, n0, l0, k0⟩ := hd
  obtain ⟨hs, o, ho, hx, hdat⟩ := dno_at I.hok h0
  have l1 : es.size = xs.length := size_of_entries e0
  refine PySem.W.kdl_call (kdl_raw hs hx hdat) (I.ok.hd hc) ho (by rw [l1]; exact l0) fun h' tk acc c kp e it => ?_
  refine ⟨.ref s.heap.objs.size, _, I.laid kp (Nat.le_refl _) (show ObjOk X.prog X.w _ _ _ (.lst (xs.map fun x => V.ref x.2.1)) from ⟨?_, acc.toList, c, ?_, ?_⟩), rfl, q _ (I.hok.fresh (Nat.le_refl _))⟩
  · rw [List.length_map]; exact l0
  · have el : acc.toList.length = xs.length := by rw [Array.length_toList, it.1, l1]
    refine vals_at (by rw [List.length_map, el]) fun j y v h1 h2 => ?_
    obtain ⟨en, hen, hv⟩ := it.2 j v (by rw [← Array.getElem?_toList]; exact h2)
    rw [entry_at e0 j] at hen
    rw [List.getElem?_map] at h1
    cases hx : xs[j]? with
    | none => rw [hx] at h1; cases h1
    | some x =>
      rw [hx] at h1 hen
      cases h1; cases hen
      exact hv
  · rw [Array.toArray_toList]; exact e
def fListD : D → Mu → DK → Prop := fun x μ Φ => rdDct x μ fun kvs => Φ (.lst (kvs.map fun kv => keyD kv.1)) μ
theorem repk_reps {B : Bd} {F : Hp} : ∀ {xs : List (List Leaf × Addr × Value)} {kvs : List (List Leaf × D)}, Repk B F xs kvs → Reps B F (xs.map fun x => V.ref x.2.1) (kvs.map fun kv => keyD kv.1)
  | _, _, .nil => .nil
  | _, _, .cons q r h t => .cons (keyD_rep q) (repk_reps t)
theorem sim_listD : SimRL (Bof X) (rListDn X.prog X.w X.K) (dr1 fListD) := sim_dr1 fun Z F H σ ρ μ Φ v d Q w r h k => by
  obtain ⟨a, xs, kvs, rfl, hd, t, h⟩ := rdDct_ok w r h
  refine ⟨a, xs, rfl, hd, fun p hp => ?_⟩
  have s2 : Same F (upd F p (.lst (xs.map fun x => V.ref x.2.1))) := same_new (w.freshF hp)
  exact k _ _ μ _ _ s2 (w.newF hp) (.lst (SqL.of upd_same) ((repk_reps t).mono s2)) h

/-! ### d != {} -/
section
variable {prog : Program} {w : World} {A : Around} {E : Value → Shared → Prop} {s : Shared}
theorem same_none {nm : String} {a b : Addr} {oa ob : Obj} {es : Array DictEntry} {ep ep' : Nat} {Q : Bool → Shared → Prop} (ha : (a == sysModules) = false) (hb : (b == sysModules) = false) (ga : s.heap.get? a = some oa) (da : oa.data = .dict es ep) (gb : s.heap.get? b = some ob) (db : ob.data = .dict #[] ep')
    (h : Q (es.size == 0) s) : wpAny (model prog w) A (Builtin.Dict.samePairs nm a b) Q E s := by
  unfold Builtin.Dict.samePairs Builtin.Dict.showsAll
  rw [if_neg (show ¬ (a == sysModules) = true by rw [ha]; exact Bool.false_ne_true), if_neg (show ¬ (b == sysModules) = true by rw [hb]; exact Bool.false_ne_true)]
  refine wpAny_bind (wpAny_pure (wpAny_bind (wpAny_pure ?_)))
  refine wpAny_bind (wpAny_dictEntries ga da ?_)
  dsimp only
  refine wpAny_bind (wpAny_dictEntries gb db ?_)
  by_cases z : es.size = 0
  · have e : es = #[] := Array.eq_empty_of_size_eq_zero z
    subst e
    rw [if_neg (by simp)]
    refine wpAny_bind (wpAny_dictEpoch ga da ?_)
    refine wpAny_bind ?_
    rw [Std.Legacy.Range.forIn_eq_forIn_range']
    exact wpAny_pure (wpAny_pure h)
  · rw [if_pos (by simpa using z)]
    have e : (es.size == 0) = false := beq_eq_false_iff_ne.mpr z
    rw [e] at h
    exact wpAny_bind (wpAny_rule (wpAny_pure h))
end
/-- d != {} -/
def rNeE (P : Program) (w : World) (K : PySem.W.Frag) : R2 := fun x y H Q => ∃ a b xs, x = .ref a ∧ y = .ref b ∧ DTb P w K H a xs ∧ DTb P w K H b [] ∧ Q (.bl (!(xs.length == 0))) H
theorem op_neE (hu : X.A.units < cLine) : OpR X (compareOp .NotEq) (rNeE X.prog X.w X.K) := by
  intro pins s σ H x y v u Q I rx ry ⟨a, b, xs, ex, ey, hA, hB, q⟩
  subst ex ey
  cases rx; cases ry
  obtain ⟨⟨es, ep, h0, e0⟩, _⟩ := id hA
  obtain ⟨⟨es1, ep1, h1, e1⟩, _⟩ := id hB
  obtain ⟨hs, o, ho, hx, hdat⟩ := dno_at I.hok h0
  obtain ⟨hs1, o1, ho1, hx1, hdat1⟩ := dno_at I.hok h1
  have ez : es1 = #[] := Array.toList_eq_nil_iff.mp e1
  subst ez
  have l1 : es.size = xs.length := size_of_entries e0
  have ta : s.TypeIs (.ref a) "dict" := ⟨o, ho, hx.1⟩
  have tb : s.TypeIs (.ref b) "dict" := ⟨o1, ho1, hx1.1⟩
  refine wpAny_richCompare_same_room (op := .NotEq) ta tb PySem.F.slot_dict_ne (wpAny_call_entry PySem.F.slot_dict_ne ta PySem.F.entry_dict_ne ?_ (PySem.F.args_dict_ne_2 _ _)) hu
  refine wpAny_bind (m := Builtin.Dict.dictSlotArgs "__ne__" ⟨[.ref a, .ref b], []⟩) ?_
  unfold Builtin.Dict.dictSlotArgs
  refine wpAny_bind (wpAny_notOrdered_dict ta ?_)
  refine wpAny_pure (wpAny_bind (wpAny_isInstance (T := "dict") tb PySem.F.sub_dict_dict ?_))
  simp only [Bool.not_true, Bool.false_eq_true, if_false]
  refine wpAny_bind (wpAny_pure (wpAny_bind (wpAny_pure ?_)))
  refine wpAny_bind (same_none hs hs1 ho hdat ho1 hdat1 ?_)
  rw [l1]
  have eb : ((xs.length == 0) == false) = !(xs.length == 0) := by cases (xs.length == 0) <;> rfl
  exact wpAny_pure ⟨_, rfl, (fun z => nomatch z), ⟨.bl _, H, I, rfl, by rw [eb]; exact q⟩⟩
def fNeE : DR2 := fun x y μ Φ => rdDct x μ fun kvs => y = .dct [] ∧ Φ (dB (!(kvs.length == 0))) μ
theorem sim_neE {B : Bd} : SimR2 B (rNeE B.P B.w B.K) fNeE := by
  intro Z F H σ ρ μ Φ x y dx dy Q w rx ry h kk
  obtain ⟨a, xs, kvs, rfl, hd, t, e, hf⟩ := rdDct_ok w rx h
  subst e
  cases ry with
  | dct q e2 t2 =>
    cases t2
    have hB := dtb_of w.sub (w.sub _ _ q) e2 .nil
    refine ⟨a, _, xs, rfl, rfl, hd, hB, ?_⟩
    rw [t.length]
    exact kk _ _ μ F H (Same.refl F) w (.v _) hf
end
end K3
set_option Elab.async false
set_option linter.all false
set_option maxRecDepth 100000
set_option maxHeartbeats 1000000
/-! KW: dict(pairs); dict comprehensions by tuples. -/
namespace K3
open PySem PySem.Spec PyProof.Rows L2

/-! ### dict([(k, v), ..]), the keys all different -/
section
variable {X : Cx}
/-- the items are pairs (key, value) -/
def Prs2 (K : PySem.W.Frag) (H : Hp) : List V → List (List Leaf × Addr × V) → Prop
  | [], [] => True
  | x :: xs, (k, b, v) :: ps => (∃ t, x = .ref t ∧ SqT K H t [.ref b, v]) ∧ SqT K H b (k.map leafV) ∧ Prs2 K H xs ps
  | _, _ => False
/-- what stands in the machine for such items -/
structure PrsAt (X : Cx) (h : Heap) (us : List Value) (Ts : Nat → Addr) (ps : List (List Leaf × Addr × V)) (qs : List (List Leaf × Addr × Value)) : Prop where
  len : us.length = qs.length
  lenp : ps.length = qs.length
  it : ∀ (j : Nat) (k : List Leaf) (b : Addr) (u : Value), qs[j]? = some (k, b, u) → us[j]? = some (.ref (Ts j)) ∧ h.IsTuple (Ts j) #[.ref b, u] ∧ (tk X).is h k b
  key : qs.map (·.1) = ps.map (·.1)
  rel : ∀ (j : Nat) (k : List Leaf) (b : Addr) (u : Value), qs[j]? = some (k, b, u) → ∃ v, ps[j]? = some (k, b, v) ∧ RelV v u
theorem prs_at {pins : List (Addr × Obj)} {σ : L2.St} {H : Hp} {s : Shared} (I : Inv X pins σ H s) : ∀ {xs : List V} {us : List Value} {ps : List (List Leaf × Addr × V)}, Vals xs us → Prs2 X.K H xs ps → ∃ Ts qs, PrsAt X s.heap us Ts ps qs
  | [], _, [], .nil, _ => ⟨fun _ => 0, [], ⟨rfl, rfl, (fun j k b u e => by simp at e), rfl, (fun j k b u e => by simp at e)⟩⟩
  | x :: xs, _, (k, b, v) :: ps, .cons r t, h => by
    obtain ⟨⟨T, ex, hT⟩, hb, hr⟩ := h
    subst ex
    obtain ⟨Ts, qs, A⟩ := prs_at I t hr
    cases r
    obtain ⟨its, rv, tp, _⟩ := I.tuple hT
    cases rv with
    | cons r1 rest => cases rest with
      | cons r2 rest =>
        cases rest
        cases r1
        rename_i u
        refine ⟨fun j => match j with | 0 => T | j + 1 => Ts j, (k, b, u) :: qs, ⟨by simp [A.len], by simp [A.lenp], fun j k' b' u' e => ?_, by simp [A.key], fun j k' b' u' e => ?_⟩⟩
        · cases j with
          | zero => simp at e; obtain ⟨rfl, rfl, rfl⟩ := e; exact ⟨rfl, tp, key_is I hb⟩
          | succ j => simp at e; obtain ⟨a1, a2⟩ := A.it j k' b' u' e; exact ⟨by simpa using a1, a2⟩
        · cases j with
          | zero => simp at e; obtain ⟨rfl, rfl, rfl⟩ := e; exact ⟨v, by simp, r2⟩
          | succ j => simp at e; obtain ⟨v', a1, a2⟩ := A.rel j k' b' u' e; exact ⟨v', by simpa using a1, a2⟩
  | [], _, _ :: _, .nil, h => h.elim
  | _ :: _, _, [], .cons _ _, h => h.elim
def rDictP (P : Program) (w : World) (K : PySem.W.Frag) : List V → Hp → VK → Prop := fun us H Q => ∃ a xs ps, us = [.ref a] ∧ SqL K H a xs ∧ Prs2 K H xs ps ∧ (ps.map (·.1)).Nodup ∧
  ∀ p (qs : List (List Leaf × Addr × Value)) es ep, H p = none → qs.length ≤ sizeLine → qs.length = ps.length → (∀ (j : Nat) (k : List Leaf) (b : Addr) (u : Value), qs[j]? = some (k, b, u) → ∃ v, ps[j]? = some (k, b, v) ∧ RelV v u) → es.toList = qs.map (entryOfKey (tupleKind (leafKind P w))) → (qs.map (·.1)).Nodup → Q (.ref p) (upd H p (dno p es ep))
theorem call_dictP (hc : X.calm = true) (hu : X.A.units + 2 < cLine) : CallR X (.type "dict") (rDictP X.prog X.w X.K) := by
  intro pins s σ H us ws Q I r ⟨a, xs, ps, e, hl, hp, nd, q⟩
  subst e
  obtain ⟨u, rfl, rx⟩ := r.one
  cases rx
  obtain ⟨its, rv, ⟨o, n, ho, hcl, hdn, hdat⟩, hz⟩ := I.list hl
  obtain ⟨Ts, qs, A⟩ := prs_at I rv hp
  have hq : (qs.map fun y => (Value.ref y.2.1, y.2.2)).length = qs.length := List.length_map _
  have nq : (qs.map (·.1)).Nodup := by rw [A.key]; exact nd
  have zq : qs.length ≤ sizeLine := by rw [← A.len, ← rv.length]; exact hz
  refine call_dict_pairsH (knd := tk X) (ps := qs) (PairArg.list a its.toArray Ts (qs.map fun y => (Value.ref y.2.1, y.2.2))) (I.ok.hd hc) hu ⟨⟨o, n, ho, hcl, hdn, hdat⟩, by rw [hq, List.size_toArray]; exact A.len, fun j k v e => ?_⟩ ⟨hq.symm, fun i key v e => ?_⟩ (fun h' hk x hx => ?_) (by rw [hq]; exact zq) fun h' tk d' hk => ?_
  · rw [List.getElem?_map] at e
    cases hj : qs[j]? with
    | none => rw [hj] at e; cases e
    | some y =>
      obtain ⟨k', b, u⟩ := y
      rw [hj] at e; cases e
      obtain ⟨a1, a2, _⟩ := A.it j k' b u hj
      exact ⟨by simpa using a1, .inl a2⟩
  · have e : (qs.map fun y => (Value.ref y.2.1, y.2.2))[i]? = some (key, v) := e
    rw [List.getElem?_map] at e
    cases hj : qs[i]? with
    | none => rw [hj] at e; cases e
    | some y =>
      obtain ⟨k', b, u⟩ := y
      rw [hj] at e; cases e
      exact ⟨k', b, rfl, rfl⟩
  · obtain ⟨k', b, u⟩ := x
    obtain ⟨j, hj⟩ := List.mem_iff_getElem?.mp hx
    obtain ⟨_, _, o', items, n', h1, h2, h3, h4⟩ := A.it j k' b u hj
    exact ⟨o', items, n', hk b o' (Nat.ne_of_lt (Heap.lt_size h1)) (by simp) h1, h2, h3, h4⟩
  · rw [storedAllH_nil_of_nodup qs nq] at d'
    obtain ⟨es, ep, e1, e2, I'⟩ := inv_new (t := tk) I (fresh_sys I (Nat.le_refl _)) d' (Nat.le_refl _) fun b ob e => hk b ob (by simp) e
    exact ⟨.ref s.heap.objs.size, _, I', rfl, q _ qs es ep (I.hok.fresh (Nat.le_refl _)) zq (by rw [A.lenp]) A.rel e1 e2⟩
/-- on the side of the data: the list is frozen, its items are (key, d) -/
def pairD (kv : List Leaf × D) : D := .tup [keyD kv.1, kv.2]
def fDictP : D → Mu → DK → Prop := fun x μ Φ => match x with | .lst ds => ∃ kvs, ds = kvs.map pairD ∧ (kvs.map (·.1)).Nodup ∧ Φ (.dct kvs) μ | _ => False
theorem prs_of {B : Bd} {F H : Hp} (s : Same F H) : ∀ {xs : List V} {kvs : List (List Leaf × D)}, Reps B F xs (kvs.map pairD) → ∃ ps, Prs2 B.K H xs ps ∧ ps.map (·.1) = kvs.map (·.1) ∧ ps.length = kvs.length ∧
    ∀ (j : Nat) (k : List Leaf) (b : Addr) (v : V), ps[j]? = some (k, b, v) → ∃ d, kvs[j]? = some (k, d) ∧ SqT B.K F b (k.map leafV) ∧ Rep B F v d
  | _, [], .nil => ⟨[], trivial, rfl, rfl, fun j k b v e => by simp at e⟩
  | _, (k, d) :: kvs, .cons r t => by
    obtain ⟨ps, h1, h2, h3, h4⟩ := prs_of s t
    cases r with
    | tup q rr => cases rr with
      | cons ra rr => cases rr with
        | cons rb rr =>
          cases rr
          obtain ⟨b, rfl, hb⟩ := key_rep ra
          rename_i v
          refine ⟨(k, b, v) :: ps, ⟨⟨_, rfl, sqt_mono s q⟩, sqt_mono s hb, h1⟩, by simp [h2], by simp [h3], fun j k' b' v' e => ?_⟩
          cases j with
          | zero => simp at e; obtain ⟨rfl, rfl, rfl⟩ := e; exact ⟨d, by simp, hb, rb⟩
          | succ j => simp at e; obtain ⟨d', a1, a2⟩ := h4 j k' b' v' e; exact ⟨d', by simpa using a1, a2⟩
theorem repk_of {B : Bd} {F : Hp} : ∀ {qs : List (List Leaf × Addr × Value)} {kvs : List (List Leaf × D)}, qs.length = kvs.length → (∀ (j : Nat) (k : List Leaf) (b : Addr) (u : Value), qs[j]? = some (k, b, u) → ∃ v d, RelV v u ∧ kvs[j]? = some (k, d) ∧ SqT B.K F b (k.map leafV) ∧ Rep B F v d) → Repk B F qs kvs
  | [], [], _, _ => .nil
  | [], _ :: _, l, _ => by cases l
  | _ :: _, [], l, _ => by cases l
  | (k, b, u) :: qs, (k', d) :: kvs, l, h => by
    obtain ⟨v, d', rv, e, hb, rd⟩ := h 0 k b u rfl
    simp at e; obtain ⟨rfl, rfl⟩ := e
    exact .cons hb rv rd (repk_of (Nat.succ.inj l) fun j k2 b2 u2 e => by
      obtain ⟨v2, d2, h1, h2, h3⟩ := h (j + 1) k2 b2 u2 (by simpa using e)
      exact ⟨v2, d2, h1, by simpa using h2, h3⟩)
theorem sim_dictP : SimRL (Bof X) (rDictP X.prog X.w X.K) (dr1 fDictP) := sim_dr1 fun Z F H σ ρ μ Φ v d Q w r h k => by
  unfold fDictP at h
  split at h
  · obtain ⟨kvs, e, nd, h⟩ := h
    subst e
    cases r with
    | lst q t =>
      obtain ⟨ps, h1, h2, h3, h4⟩ := prs_of w.sub t
      refine ⟨_, _, ps, rfl, sql_mono w.sub q, h1, by rw [h2]; exact nd, fun p qs es ep hp lq l1 l2 e1 e2 => ?_⟩
      have s2 : Same F (upd F p (dno p es ep)) := same_new (w.freshF hp)
      have hk : Repk (Bof X) F qs kvs := repk_of (by rw [l1, h3]) fun j k b u e => by
        obtain ⟨v, ev, rv⟩ := l2 j k b u e
        obtain ⟨d, ed, hb, rd⟩ := h4 j k b v ev
        exact ⟨v, d, rv, ed, hb, rd⟩
      exact k _ (.dct kvs) μ _ _ s2 (w.newF hp) (.dct upd_same ⟨e1, e2, lq⟩ (hk.mono s2)) h
  · exact h.elim
end

/-! ### {k: v for .. in ..} -/
section
variable {X : Cx}
def tDcn (P : Program) (w : World) (K : PySem.W.Frag) (wi : TI) (g : TG) (tt : TT) (ta tv : TE) (vs : List Nat) : TE := fun σ H Q => wi σ H fun J H1 => ∀ p, H1 p = none → ∃ W : Nat → Nat → Hp → Prop, (∃ m, W 0 m (upd H1 p (dno p #[] 0))) ∧ ∀ i m H, W i m H →
  (J.stop i H ∧ Q (.ref p) H) ∨ (J.go i H ∧ ∃ Nx : Hp → Prop, (∀ H', Nx H' → ∃ m', m' < m ∧ W (i + 1) m' H') ∧ ∀ x H', J.yld i H x H' → g x (wipe σ vs) H' fun σ2 H2 => wipe σ2 vs = wipe σ vs ∧
    tt σ2 H2 fun b H3 => if b = true then ta σ2 H3 fun y H4 => tv σ2 H4 fun z H5 => rDSet P w K (.ref p) y z H5 Nx else Nx H3)
theorem dn_store {pins : List (Addr × Obj)} {σ : L2.St} {H : Hp} {s : Shared} {E : Value → Shared → Prop} {a : Addr} {y z : V} {u r : Value} {N : Hp → Prop} {Q : Unit → Shared → Prop} (hu : X.A.units + 1 < cLine) (I : Inv X pins σ H s) (ry : RelV y u) (rz : RelV z r) (h : rDSet X.prog X.w X.K (.ref a) y z H N)
    (q : ∀ s' H', Inv X pins σ H' s' → N H' → Q () s') : wpAny (model X.prog X.w) X.A (dictSet a u r) Q E s := by
  obtain ⟨b, a', k, xs, ea, ey, hk, hd, hz, n⟩ := h
  cases ea
  subst ey
  cases ry
  obtain ⟨⟨es0, ep0, e0, _⟩, _⟩ := id hd
  obtain ⟨h1, h2, h3, _⟩ := dtb_at I hd
  refine wpAny_dictSet_heap (knd := K3.tk X) (Nat.lt_of_succ_lt hu) (key_is I hk) h1 (fun h' d' sb => ?_) (Nat.le_of_lt hz)
  obtain ⟨es, ep, e1, e2, I'⟩ := inv_stored (t := s.toks + (K3.tk X).draws k) I h2 e0 d' sb
  exact q _ _ I' (n r es ep rz e1 e2)
theorem dcn_core {pn : List (Addr × Obj)} {s : Shared} {σ : L2.St} {H : Hp} {Q : VK} {ek ev eg ei : Expr} {cs : List Expr} {sc : Scope} {ow : List (Str × Nat)} {ps0 ps1 : Pos} {ti_ : TI} {g : TG} {tc : TT} {ta tb : TE} {use : Option (Value → Sem Unit)} {Qf : Value → Shared → Prop}
    (hu : X.A.units + 1 < cLine) (cm : X.calm = true) (nd : X.N.Nodup) (I : Inv X pn σ H s) (hi : PI X eg ei ti_) (ok : BlkOk X.N X.env.scope sc ow)
    (hg : ∀ (s : Shared) (H : Hp) (C : Addr) (cl : List (Str × Addr)) (fs : List Addr), PG (X.blk s H sc (compEnvC sc cl C X.env) fs) eg g) (ht : ∀ (s : Shared) (H : Hp) (C : Addr) (cl : List (Str × Addr)) (fs : List Addr), PTs (X.blk s H sc (compEnvC sc cl C X.env) fs) cs tc)
    (hk : ∀ (s : Shared) (H : Hp) (C : Addr) (cl : List (Str × Addr)) (fs : List Addr), PE (X.blk s H sc (compEnvC sc cl C X.env) fs) ek ta)
    (he : ∀ (s : Shared) (H : Hp) (C : Addr) (cl : List (Str × Addr)) (fs : List Addr), PE (X.blk s H sc (compEnvC sc cl C X.env) fs) ev tb) (hs : ∀ x, foldedSetIterable ei X.env x = pure x)
    (h : tDcn X.prog X.w X.K ti_ g tc ta tb (ow.map (·.2)) σ H Q)
    (hR2 : ∀ Da C t' m G', Inv X pn σ G' t' → Q (.ref Da) G' → t'.heap.Ns C m → FpOk X pn G' C → compPost (model X.prog X.w) X.A X.xe use Qf (.ref Da) C (.ok .next) t') :
    wpAny (model X.prog X.w) X.A (comprehension (.DictComp ek ev [⟨eg, ei, cs, 0⟩] sc ps0) sc X.env ps1 newDict false (eval ei X.env) use) Qf X.xe s := by
  have frees : ∀ y ∈ sc.names, y.2 = .free → ∃ c, X.env.cells.lookup y.1 = some c := fun y hy e => by
    rcases ok.free y hy e with k | k
    · exact I.ok.has _ (.inl k)
    · exact I.ok.has _ (.inr k)
  refine wpAny_comprehension_free (use := use) rfl hs (closure_ok frees) ok.kind (fun y hy e => by rw [ok.uniq y hy, e])
    (thn (hi.run pn s σ H _ I h) fun xu t1 hx => thn hx fun itu t2 h2 => ?_)
  obtain ⟨it, fs, tn, J, G2, e, J2, T, sa2, fa2, q⟩ := h2
  subst e
  refine wpAny_newObj_type (newEnv_comp ?_)
  generalize gD : t2.heap.objs.size = Da
  have hDn : G2 Da = none := J2.hok.fresh (Nat.le_of_eq gD)
  obtain ⟨W, ⟨m0, wa0⟩, trn⟩ := q Da hDn
  -- the new list
  generalize e3 : ({ t2 with heap := t2.heap.push { cls := .type "dict", data := .dict #[] } } : Shared) = t3
  have J3 : Inv X pn σ (upd G2 Da (dno Da #[] 0)) t3 := by
    rw [← e3]
    refine J2.laid (t' := t2.toks) (fun b o e => Heap.get?_push_of_some _ e) (Nat.le_of_eq gD) ?_
    rw [← gD]
    exact dno_new t2.heap J2.big
  have ha3 : t3.heap = t2.heap.push { cls := .type "dict", data := .dict #[] } := by rw [← e3]
  have szs : ∀ b ∈ fs, b < t2.heap.objs.size := fun b hb => by
    obtain ⟨o, e, _⟩ := T.obj _ _ sa2 b hb
    exact Heap.lt_size e
  have fa3 : ∀ b ∈ fs, FpOk X pn (upd G2 Da (dno Da #[] 0)) b ∧ b < t3.heap.objs.size := fun b hb => by
    have hlt := szs b hb
    refine ⟨⟨?_, (fa2 b hb).2⟩, by rw [ha3, Heap.size_push]; exact Nat.lt_succ_of_lt hlt⟩
    rw [upd_ne (by rw [← gD]; exact Nat.ne_of_lt hlt)]
    exact (fa2 b hb).1
  have sa3 : tn 0 t3.heap := T.keep _ _ _ sa2 fun b _ o e => by rw [ha3]; exact Heap.get?_push_of_some _ e
  have J4 := block_start J3 ok nd fa3
  have pq := hg t3 (upd G2 Da (dno Da #[] 0)) t3.heap.objs.size (cellsFrom (t3.heap.objs.size + 1) sc.names (cloFrom X.env.cells sc.names [])) fs
  have pt_ := ht t3 (upd G2 Da (dno Da #[] 0)) t3.heap.objs.size (cellsFrom (t3.heap.objs.size + 1) sc.names (cloFrom X.env.cells sc.names [])) fs
  have pk_ := hk t3 (upd G2 Da (dno Da #[] 0)) t3.heap.objs.size (cellsFrom (t3.heap.objs.size + 1) sc.names (cloFrom X.env.cells sc.names [])) fs
  have pe_ := he t3 (upd G2 Da (dno Da #[] 0)) t3.heap.objs.size (cellsFrom (t3.heap.objs.size + 1) sc.names (cloFrom X.env.cells sc.names [])) fs
  show codeAny _ _ (.compStart (.DictComp ek ev [⟨eg, ei, cs, 0⟩] sc ps0) 0 (.ref it) (.ref Da) (compEnvC sc (cellsFrom (t3.heap.objs.size + 1) sc.names (cloFrom X.env.cells sc.names [])) t3.heap.objs.size X.env)) (compPost (model X.prog X.w) X.A X.xe use Qf (.ref Da) t3.heap.objs.size) { t3 with heap := pushCells (t3.heap.push { cls := .type "dict", data := .dict #[] }) sc.names }
  have nfs : ∀ b ∈ fs, (upd G2 Da (dno Da #[] 0)) b = none := fun b hb => (fa3 b hb).1.1
  generalize een : compEnvC sc (cellsFrom (t3.heap.objs.size + 1) sc.names (cloFrom X.env.cells sc.names [])) t3.heap.objs.size X.env = en at J4 pq pt_ pk_ pe_ ⊢
  have cLa : en.locals = t3.heap.objs.size := by subst een; rfl
  generalize eG3 : upd G2 Da (dno Da #[] 0) = G3 at J3 J4 pq pt_ pk_ pe_ wa0 nfs fa3
  generalize e4 : ({ t3 with heap := pushCells (t3.heap.push { cls := .type "dict", data := .dict #[] }) sc.names } : Shared) = t4 at J4 ⊢
  have sa4 : tn 0 t4.heap := T.keep _ _ _ sa3 fun b _ o e => by rw [← e4]; exact pushCells_keeps _ _ _ _ (Heap.get?_push_of_some _ e)
  have stats : ∀ {σ' : L2.St} {G' : Hp} {t' : Shared}, Inv (X.blk t3 G3 sc en fs) [] σ' G' t' → (∀ b ∈ fs, G' b = none) → ∀ b ∈ fs, FpOk (X.blk t3 G3 sc en fs) [] G' b := fun {σ' G' t'} J' hna b hb =>
    ⟨hna b hb, (J'.ok.exf b hb).1, J'.ok.exfs b hb, .inl hb, fun x c e => (J'.ok.exf b hb).2 x c e, fun p hp => absurd (show p ∈ ([] : List (Addr × Obj)) ++ [] from hp) (by simp)⟩
  have lp : codeAny (model X.prog X.w) X.A (.compLoop (.DictComp ek ev [⟨eg, ei, cs, 0⟩] sc ps0) 0 (.ref it) (.ref Da) en) (compPost (model X.prog X.w) X.A X.xe use Qf (.ref Da) t3.heap.objs.size) t4 := by
    refine compLoop_anyD (fun n t' => ∃ i G', Inv (X.blk t3 G3 sc en fs) [] (wipe σ (ow.map (·.2))) G' t' ∧ tn i t'.heap ∧ (∀ b ∈ fs, G' b = none) ∧ W i n G') ?_ m0 ⟨0, G3, J4, sa4, nfs, wa0⟩
    rintro n t5 ⟨i, G5, J5, sa5, na5, wa5⟩
    rcases trn i n G5 wa5 with ⟨stp, qz⟩ | ⟨gq, Nx, hNx, stepq⟩
    · have tdn := T.done (X.blk t3 G3 sc en fs) rfl rfl rfl cm i [] t5 _ G5 (fun _ _ => False) J5 (stats J5 na5) sa5 stp
      refine thnF tdn fun r t6 ⟨hr, J6⟩ => ?_
      subst hr
      -- back in the def's context
      have J7 : Inv X pn σ G5 t6 := J3.call' (ch := fs) J6.os J6.base J6.hok J6.bare fun b hb => ⟨(fa3 b hb).1.2.2.2.1, (fa3 b hb).1.2.1, (fa3 b hb).1.2.2.2.2.1, (fa3 b hb).1.2.2.2.2.2⟩
      have nCa : G5 t3.heap.objs.size = none := by
        have z : G5 en.locals = none := J6.free
        rw [cLa] at z
        exact z
      obtain ⟨m, hna, _⟩ := J6.loc
      have hna : t6.heap.Ns en.locals m := hna
      rw [cLa] at hna
      exact hR2 Da t3.heap.objs.size t6 m G5 J7 qz hna (J3.fpOk (Nat.le_refl _) nCa)
    · have tin := T.item (X.blk t3 G3 sc en fs) rfl rfl rfl cm i [] t5 _ G5 (fun _ _ => False) J5 (stats J5 na5) sa5 gq
      refine thnF tin fun r t6 ⟨u, hr, h6⟩ => ?_
      subst hr
      refine thnF h6 fun _ t7 ⟨x, G7, J7, r7, y7, sa7, na7⟩ => ?_
      have J7' := J7.pinned (stats J7 na7) (T.obj _ _ sa7)
      refine thnF (pq.run _ t7 _ G7 x u _ J7' r7 (stepq x G7 y7)) fun _ t8 ⟨σ8, G8, J8, hw8, q8⟩ => ?_
      refine thnF (pt_.run _ t8 σ8 G8 _ J8 q8) fun b t9 ⟨G9, J9, q9⟩ => ?_
      -- the turn's end
      have finq : ∀ {t' : Shared} {G' : Hp}, Inv (X.blk t3 G3 sc en fs) ([] ++ pinsAt fs t7.heap) σ8 G' t' → Nx G' → ∃ m, m < n ∧ ∃ i G', Inv (X.blk t3 G3 sc en fs) [] (wipe σ (ow.map (·.2))) G' t' ∧ tn i t'.heap ∧ (∀ b ∈ fs, G' b = none) ∧ W i m G' := fun {t' G'} J' nxq => by
        obtain ⟨m', hm, w'⟩ := hNx G' nxq
        have pins' : ∀ b ∈ fs, ∀ o, t7.heap.get? b = some o → t'.heap.get? b = some o ∧ G' b = none := fun b hb o e =>
          let z := J'.pin (b, o) (List.mem_append_right _ (List.mem_append_right _ (mem_pinsAt hb e)))
          ⟨z.1, z.2.1⟩
        have hl : (wipe σ (ow.map (·.2))).length = σ8.length := by rw [← hw8, wipe_length]
        refine ⟨m', hm, i + 1, G', (J'.unpinned (pins := [])).weak hl (fun j v e => ?_), T.keep _ _ _ sa7 fun b hb o e => (pins' b hb o e).1, fun b hb => ?_, w'⟩
        · rw [← hw8] at e
          exact (wipe_some e).1
        · obtain ⟨o, e, _⟩ := T.obj _ _ sa7 b hb
          exact (pins' b hb o e).2
      cases b with
      | false =>
        simp only [Bool.false_eq_true, if_false] at q9 ⊢
        exact finq J9 q9
      | true =>
        simp only [if_true] at q9 ⊢
        refine thnF (pk_.run _ t9 σ8 G9 _ J9 q9) fun z t10 ⟨yk, G10, J10, r10, q10⟩ => ?_
        refine thnF (pe_.run _ t10 σ8 G10 _ J10 q10) fun z2 t11 ⟨yv, G11, J11, r11, nxq⟩ => ?_
        exact dn_store (X := X.blk t3 G3 sc en fs) hu J11 r10 r11 nxq fun t12 G12 J12 q12 => finq J12 q12
  exact codeAny_compStart_dict lp (T.self X.A 0 _ _ _ sa4 lp)
/-- as a value -/
theorem pe_dcn {ek ev eg ei : Expr} {cs : List Expr} {sc : Scope} {ow : List (Str × Nat)} {ps0 : Pos} {ti_ : TI} {g : TG} {tc : TT} {ta tb : TE} (hu : X.A.units + 1 < cLine) (cm : X.calm = true) (nd : X.N.Nodup) (hi : PI X eg ei ti_) (ok : BlkOk X.N X.env.scope sc ow)
    (hg : ∀ (s : Shared) (H : Hp) (C : Addr) (cl : List (Str × Addr)) (fs : List Addr), PG (X.blk s H sc (compEnvC sc cl C X.env) fs) eg g) (ht : ∀ (s : Shared) (H : Hp) (C : Addr) (cl : List (Str × Addr)) (fs : List Addr), PTs (X.blk s H sc (compEnvC sc cl C X.env) fs) cs tc)
    (hk : ∀ (s : Shared) (H : Hp) (C : Addr) (cl : List (Str × Addr)) (fs : List Addr), PE (X.blk s H sc (compEnvC sc cl C X.env) fs) ek ta)
    (he : ∀ (s : Shared) (H : Hp) (C : Addr) (cl : List (Str × Addr)) (fs : List Addr), PE (X.blk s H sc (compEnvC sc cl C X.env) fs) ev tb) (hs : ∀ x, foldedSetIterable ei X.env x = pure x := by intro _; rfl) :
    PE X (.DictComp ek ev [⟨eg, ei, cs, 0⟩] sc ps0) (tDcn X.prog X.w X.K ti_ g tc ta tb (ow.map (·.2))) := by
  refine ⟨fun pn s σ H Q I h => ?_⟩
  rw [arm_eval_DictComp]
  refine dcn_core hu cm nd I hi ok hg ht hk he hs h fun Da C t' m G' J' q hna f => ⟨m, hna, fun h'' sb => ?_⟩
  obtain ⟨f0, f1, fa2, fa3, f4, f5⟩ := f
  exact ⟨.ref Da, G', J'.turned (t' := t'.toks) (fun b o hb e => (sb.2 b hb).trans e) f0 f1 fa3 f4 f5, rfl, q⟩end
/-- the entries so far: acc -/
inductive DcD (bl : D → Option Rho) (dk dv : DE) (xs : List D) (μ1 : Mu) (Φ : List (List Leaf × D) → Mu → Prop) : Prop
  | mk (W : Nat → List (List Leaf × D) → Mu → Prop) (h0 : W 0 [] μ1)
    (h1 : ∀ i x acc μ', xs[i]? = some x → W i acc μ' → match bl x with | none => False | some ρb => dk ρb μ' fun y μ2 => dv ρb μ2 fun z μ3 => ∃ k, y = keyD k ∧ lenOk acc.length (W (i + 1) (putD acc k z) μ3))
    (h2 : ∀ kvs μ', W xs.length kvs μ' → Φ kvs μ')
def dDc (di : DI) (bl : Rho → D → Option Rho) (dk dv : DE) : DE := fun ρ μ Φ => di ρ μ fun xs μ1 => DcD (bl ρ) dk dv xs μ1 fun kvs μ2 => Φ (.dct kvs) μ2
def dDcM (di : DI) (bl : Rho → D → Option Rho) (dk dv : DE) : DE := fun ρ μ Φ => di ρ μ fun xs μ1 => DcD (bl ρ) dk dv xs μ1 fun kvs μ2 => ∀ p, μ2 p = none → Φ (dR p) (mup μ2 p (.dct kvs))
theorem dc_sim {B : Bd} {g : TG} {vs : List Nat} {bl : Rho → D → Option Rho} {di : DI} {dk dv : DE} (hb : Blk B g vs bl) {Z : Zc} {F H : Hp} {σ : L2.St} {ρ : Rho} {μ : Mu} {Ψ : List (List Leaf × D) → Mu → Prop} {Q : VK} (w : WS B Z F H σ ρ μ)
    (h : di ρ μ fun xs μ1 => DcD (bl ρ) dk dv xs μ1 Ψ) (fin : ∀ p kvs μ' F' H', Same F F' → WS B Z F' H' σ ρ (mup μ' p (.dct kvs)) → μ' p = none → Z.H p = none → Ψ kvs μ' → Q (.ref p) H') :
    tDcn B.P B.w B.K (cI B di) g (cT B dYes) (cE B dk) (cE B dv) vs σ H Q := by
  refine ⟨Z, F, ρ, μ, _, w, h, fun J xs μ1 F1 H1 s1 w1 wk h1 p hp => ?_⟩
  obtain ⟨W, w0, step, done⟩ := h1
  have z0 : Z.H p = none := w1.fresh0 hp
  refine ⟨fun i m H' => m = xs.length - i ∧ i ≤ xs.length ∧ ∃ F' acc μ', Same F1 F' ∧ WS B Z F' H' σ ρ (mup μ' p (.dct acc)) ∧ μ' p = none ∧ W i acc μ',
    ⟨_, rfl, Nat.zero_le _, F1, [], μ1, Same.refl F1, w1.newM (m := .dct []) hp ⟨#[], 0, [], upd_same, des_nil, .nil⟩, w1.freshM hp, w0⟩, ?_⟩
  rintro i m H2 ⟨rfl, hi, F2, acc, μ2, s2, w2, n2, wi⟩
  by_cases hlt : i < xs.length
  · obtain ⟨go, yl⟩ := (wk Z F2 H2 σ ρ _ s2 w2 i).1 hlt
    refine .inr ⟨go, fun H' => ∃ F' acc μ', Same F1 F' ∧ WS B Z F' H' σ ρ (mup μ' p (.dct acc)) ∧ μ' p = none ∧ W (i + 1) acc μ', fun H' q => ⟨xs.length - (i + 1), by omega, rfl, hlt, q⟩, fun x H3 y => ?_⟩
    obtain ⟨F3, d, s3, w3, hd, rd, kp⟩ := yl x H3 y
    have st := step i d acc μ2 hd wi
    split at st
    · exact st.elim
    · rename_i ρb eb
      refine hb.go σ ρ F3 H3 x d ρb _ w3.slots w3.sub rd eb fun σb sb hw => ⟨hw, ?_⟩
      have v3 : WS B Z F3 H3 σ ρ μ2 := w3.less fun a o e => by
        have ne : a ≠ p := fun q => by rw [q, n2] at e; cases e
        rw [mup_ne ne]; exact e
      refine ⟨⟨F3, H3, dom μ2⟩, F3, ρb, μ2, fun b μ' => b = true ∧ μ' = μ2, v3.rebase.reslot sb, ⟨rfl, rfl⟩, fun b μ4 F4 H4 s4 w4 h4 => ?_⟩
      obtain ⟨rfl, rfl⟩ := h4
      rw [if_pos rfl]
      refine ⟨⟨F3, H3, dom μ4⟩, F4, ρb, μ4, _, w4, st, fun vk dky μ5 F5 H5 s5 w5 r5 h5 => ?_⟩
      refine ⟨⟨F3, H3, dom μ4⟩, F5, ρb, μ5, _, w5, h5, fun vz dz μ6 F6 H6 s6 w6 r6 h6 => ?_⟩
      obtain ⟨k, e, h6⟩ := h6
      subst e
      obtain ⟨_, hl, h6⟩ := h6.elim
      obtain ⟨b, rfl, hkb⟩ := key_rep (r5.mono s6)
      obtain ⟨w7, n7, _⟩ := w3.back n2 (w6.reslot (w3.slots.mono (s4.trans (s5.trans s6))))
      obtain ⟨_, _, es, ep, ys, q, e2, t⟩ := w7.muts _ _ mup_same
      have el : ys.length = acc.length := t.length
      have hd7 : DTb B.P B.w B.K H6 p ys := dtb_of w7.sub q e2 t
      have hb7 : SqT B.K H6 b (k.map leafV) := sqt_mono w7.sub hkb
      have lz : ys.length < sizeLine := by rw [el]; exact hl
      show rDSet B.P B.w B.K (.ref p) (.ref b) vz H6 _
      refine ⟨b, p, k, ys, rfl, rfl, hb7, hd7, lz, fun u es' ep' rv e3 e4 => ?_⟩
      have l1 : (storedH ys k b u).length ≤ sizeLine := Nat.le_trans (stored_len (k := k) ys b u) (Nat.succ_le_of_lt lz)
      have w8 := mut_dct (ep := ep') w7 mup_same e3 e4 l1 (repk_put t hkb rv r6)
      rw [mup_mup] at w8
      exact ⟨F6, _, μ6, s2.trans (s3.trans (s4.trans (s5.trans s6))), w8, n7, h6⟩
  · have e : i = xs.length := by omega
    subst e
    exact .inl ⟨(wk Z F2 H2 σ ρ _ s2 w2 _).2 rfl, fin p acc μ2 F2 H2 (s1.trans s2) w2 n2 z0 (done acc μ2 wi)⟩
section
variable {X : Cx} {kx vx tg iter : Expr} {scope : Scope} {own : List (Str × Nat)} {pos : Pos} {di : DI} {g : TG} {dk dv : DE} {bl : Rho → D → Option Rho}
theorem q_dc (hu : X.A.units + 1 < cLine) (hb : Blk (Bof X) g (own.map (·.2)) bl) (hc : X.calm = true) (hN : X.N.Nodup) (ok : BlkOk X.N X.env.scope scope own) (hi : QI X tg iter di)
    (hg : ∀ (s : Shared) (H : Hp) (C : Addr) (cl : List (Str × Addr)) (fp : List Addr), PG (X.blk s H scope (compEnvC scope cl C X.env) fp) tg g)
    (hk : ∀ (s : Shared) (H : Hp) (C : Addr) (cl : List (Str × Addr)) (fp : List Addr), QE (X.blk s H scope (compEnvC scope cl C X.env) fp) kx dk)
    (hv : ∀ (s : Shared) (H : Hp) (C : Addr) (cl : List (Str × Addr)) (fp : List Addr), QE (X.blk s H scope (compEnvC scope cl C X.env) fp) vx dv) (hs : ∀ x, foldedSetIterable iter X.env x = pure x := by intro _; rfl) :
    QE X (.DictComp kx vx [⟨tg, iter, [], 0⟩] scope pos) (dDc di bl dk dv) := by
  refine pe_imp (pe_dcn (tc := cT (Bof X) dYes) (ta := cE (Bof X) dk) (tb := cE (Bof X) dv) hu hc hN hi ok hg (fun _ _ _ _ _ => ts_nil) hk hv hs) ?_
  rintro σ H Q ⟨Z, F, ρ, μ, Φ, w, h, k⟩
  refine dc_sim hb w h fun p kvs μ' F' H' s' w' n' z' h' => ?_
  obtain ⟨F2, s2, w2, r2⟩ := w'.freeze mup_same z'
  rw [mdel_mup n'] at w2
  exact k _ _ μ' F2 H' (s'.trans s2) w2 r2 h'
theorem q_dcM (hu : X.A.units + 1 < cLine) (hb : Blk (Bof X) g (own.map (·.2)) bl) (hc : X.calm = true) (hN : X.N.Nodup) (ok : BlkOk X.N X.env.scope scope own) (hi : QI X tg iter di)
    (hg : ∀ (s : Shared) (H : Hp) (C : Addr) (cl : List (Str × Addr)) (fp : List Addr), PG (X.blk s H scope (compEnvC scope cl C X.env) fp) tg g)
    (hk : ∀ (s : Shared) (H : Hp) (C : Addr) (cl : List (Str × Addr)) (fp : List Addr), QE (X.blk s H scope (compEnvC scope cl C X.env) fp) kx dk)
    (hv : ∀ (s : Shared) (H : Hp) (C : Addr) (cl : List (Str × Addr)) (fp : List Addr), QE (X.blk s H scope (compEnvC scope cl C X.env) fp) vx dv) (hs : ∀ x, foldedSetIterable iter X.env x = pure x := by intro _; rfl) :
    QE X (.DictComp kx vx [⟨tg, iter, [], 0⟩] scope pos) (dDcM di bl dk dv) := by
  refine pe_imp (pe_dcn (tc := cT (Bof X) dYes) (ta := cE (Bof X) dk) (tb := cE (Bof X) dv) hu hc hN hi ok hg (fun _ _ _ _ _ => ts_nil) hk hv hs) ?_
  rintro σ H Q ⟨Z, F, ρ, μ, Φ, w, h, k⟩
  exact dc_sim hb w h fun p kvs μ' F' H' s' w' n' z' h' => k _ _ _ F' H' s' w' (.v _) (h' p n')
end
end K3
set_option Elab.async false
set_option linter.all false
set_option maxRecDepth 100000
set_option maxHeartbeats 3200000
/-! KX: set(a list), any members that are added by a rule; sets of texts; sorted(set(..)), len(set(..)). -/
namespace K3
open PySem PySem.Spec PyProof.Rows L2

section
variable {P : Program} {w : World} {A : Around} {E : Value → Shared → Prop} {s : Shared}
theorem upd_gen {I : Addr} {fp wr : List Addr} {G : Array GenState → Array GenState → Prop} {n : Nat} {Pv : Nat → Value → Prop} {St : Nat → Shared → Prop} {R : Result → Shared → Prop}
    (W : WalksS P w A.in1 I fp wr G n Pv St) (S : Addr) (off : S ∉ fp) (S2 : Nat → Heap → Prop) (keepS : ∀ i h h', S2 i h → (∀ o, h.get? S = some o → h'.get? S = some o) → S2 i h')
    (add : ∀ (i : Nat) (v : Value) (A' : Around) (E' : Value → Shared → Prop) (s1 : Shared) (Q' : Bool → Shared → Prop), Pv i v → S2 i s1.heap → (∀ b h2 tk, s1.toks ≤ tk → Heap.SameBut S s1.heap h2 → S2 (i + 1) h2 → Q' b { s1 with heap := h2, toks := tk }) → wpAny (model P w) A' (setAdd S v) Q' E' s1) :
    ∀ (k i : Nat) (s : Shared), n - i = k → i ≤ n → St i s → S2 i s.heap → (∀ s', Moved (S :: wr) G s s' → S2 n s'.heap → R (.ok (.ret .none)) s') →
      codeAny (model P w) A (.builtin "set.update.loop" ⟨[.ref S, .ref I], []⟩) R s := by
  have nw : S ∉ wr := fun m => off (W.sub _ m)
  have up : ∀ b ∈ wr, b ∈ S :: wr := fun b m => List.mem_cons_of_mem _ m
  intro k
  induction k with
  | zero =>
    intro i s ek hi st hS hR
    obtain rfl : i = n := by omega
    refine codeAny_builtin F.entry_set_update_loop ?_
    rw [Around.under_plainId F.plain_set_update_loop _]
    refine wpAny_bind (m := pyNext (.ref I)) (W.done s _ _ st fun t mv => ?_)
    exact wpAny_pure (hR t (mv.mono up) (keepS i _ _ hS fun o e => mv.heap S o nw e))
  | succ k ih =>
    intro i s ek hi st hS hR
    have lt : i < n := by omega
    refine codeAny_builtin F.entry_set_update_loop ?_
    rw [Around.under_plainId F.plain_set_update_loop _]
    refine wpAny_bind (m := pyNext (.ref I)) (W.item i s _ _ lt st fun v t pv st' mv => ?_)
    have hS' : S2 i t.heap := keepS i _ _ hS fun o e => mv.heap S o nw e
    refine wpAny_bind (m := holding [v] (setAdd S v)) (wpAny_holding ?_)
    refine add i v A.in1 _ t _ pv hS' fun b h2 tk le sb hS2 => ?_
    refine wpAny_pure ⟨plainId_quiet F.plain_set_update_loop _, ih (i + 1) _ (by omega) lt (W.frame _ t _ _ st' le fun c hc o e => ?_) hS2 fun u mu hu => ?_⟩
    · rw [sb.2 c (fun z : c = S => off (by rw [← z]; exact hc))]; exact e
    · refine hR u (Moved.trans W.gtrans ((mv.mono up).then_heap le fun c o hc e => ?_) mu) hu
      rw [sb.2 c (fun z : c = S => hc (by rw [z]; exact List.mem_cons_self))]; exact e
set_option maxRecDepth 100000 in
set_option maxHeartbeats 6400000 in
theorem call_set_gen {sq : Addr} {its : Array Value} (S2 : Nat → Heap → Prop) {Q : Value → Shared → Prop} (hh : A.handled = none) (hl : s.heap.IsList sq its)
    (new : ∀ h, h.get? s.heap.objs.size = some { cls := .type "set", dict := none, data := .set #[] 0 (.fresh 0 0 (!w.params.followText "set-order")) } → S2 0 h)
    (keepS : ∀ i h h', S2 i h → (∀ o, h.get? s.heap.objs.size = some o → h'.get? s.heap.objs.size = some o) → S2 i h')
    (add : ∀ (i : Nat) (v : Value) (A' : Around) (E' : Value → Shared → Prop) (s1 : Shared) (Q' : Bool → Shared → Prop), its[i]? = some v → S2 i s1.heap → (∀ b h2 tk, s1.toks ≤ tk → Heap.SameBut s.heap.objs.size s1.heap h2 → S2 (i + 1) h2 → Q' b { s1 with heap := h2, toks := tk }) → wpAny (model P w) A' (setAdd s.heap.objs.size v) Q' E' s1)
    (h : ∀ (h2' : Heap) (tk : Nat), S2 its.size h2' → (∀ b o, s.heap.get? b = some o → h2'.get? b = some o) → Q (.ref s.heap.objs.size) { s with heap := h2', toks := tk }) :
    wpAny (model P w) A (call (.type "set") [.ref sq]) Q E s := by
  obtain ⟨c, tl, mro_⟩ := F.called_set.mro
  have made_ := F.called_set.made
  have sub_ := F.called_set.sub
  refine wpAny_call (codeAny_of_tree ?_)
  show wpAny _ _ (callAny (.type "set") _) _ _ _
  refine wpAny_pure ⟨Code.quiet_builtin _ (by decide +kernel), codeAny_builtin F.entry_type_call ?_⟩
  rw [Around.under_plain (weight_type_call_type "set" [.ref sq] []) rfl]
  have g1 := F.called_set.notType
  have g2 := F.called_set.canCreate
  have gct := F.typeCall_set_1 (.ref sq)
  repeat (any_goals (first | assumption | wp_step))

  refine codeAny_mono (code_set_led1 (.ref sq) (E := E) (Q₁ := fun ob s1 => ob = .ref s.heap.objs.size ∧ s1 = { s with heap := s.heap.push { cls := .type "set", dict := none, data := .set #[] 0 (.fresh 0 0 (!w.params.followText "set-order")) } }) ⟨rfl, rfl⟩) fun r s1 hr => ?_
  cases r with
  | error e => exact hr
  | ok fl =>
    cases fl with
    | ret ob =>
      obtain ⟨rfl, rfl⟩ := hr
      have gS : (s.heap.push { cls := .type "set", dict := none, data := .set #[] 0 (.fresh 0 0 (!w.params.followText "set-order")) }).get? s.heap.objs.size = some { cls := .type "set", dict := none, data := .set #[] 0 (.fresh 0 0 (!w.params.followText "set-order")) } := Heap.get?_push_size _ rfl
      have gT : Shared.TypeIs { s with heap := s.heap.push { cls := .type "set", dict := none, data := .set #[] 0 (.fresh 0 0 (!w.params.followText "set-order")) } } (.ref s.heap.objs.size) "set" := ⟨_, gS, rfl⟩
      have gli := F.called_set.init.lookup
      have gbi := F.called_set.init.bind (.ref s.heap.objs.size)
      repeat (any_goals (first | assumption | wp_step))

      refine codeAny_mono (codeAny_call_builtin (R := wants (fun r s2 => r = .none ∧ ∃ h2' tk, s2 = { s with heap := h2', toks := tk } ∧ S2 its.size h2' ∧
          (∀ b o, s.heap.get? b = some o → h2'.get? b = some o)) E) F.called_set.init.plain F.entry_set_init (check_set_init_1 gT ?_)) fun r2 s2 hr2 => ?_
      · obtain ⟨qo, gho, kc, nn, kd⟩ := hl
        obtain ⟨c0, d0, t0, l0⟩ := qo
        simp only at kc kd
        subst kc; subst kd
        have gho' : (s.heap.push { cls := .type "set", dict := none, data := .set #[] 0 (.fresh 0 0 (!w.params.followText "set-order")) }).get? sq = some { cls := .type "list", dict := d0, data := .seq its nn, slots := l0 } := Heap.get?_push_of_some _ gho
        have gsl := F.sub_list_set
        have gsf := F.sub_list_frozenset
        have gne : (Value.type "list" == Value.type "dict") = false := by decide
        have gl1 : (s.heap.push { cls := .type "set", dict := none, data := .set #[] 0 (.fresh 0 0 (!w.params.followText "set-order")) }).IsList sq its := ⟨_, gho', rfl, nn, rfl⟩
        unfold Builtin.«set.__init__» noKeywords Builtin.Frozenset.updateFrom
        generalize ePI : pyIter = PX
        wp_walk
        subst ePI

        refine wpAny_pyIter_list gl1 ?_
        refine wpAny_bind (wpAny_runValue ?_)
        have glt : sq < s.heap.objs.size := Heap.lt_size gho
        have g3 : A.in1.in1.in1.handled = none := by simp [hh]
        have gz : (s.heap.push { cls := .type "set", dict := none, data := .set #[] 0 (.fresh 0 0 (!w.params.followText "set-order")) }).objs.size = s.heap.objs.size + 1 := Heap.size_push ..
        have gni : sq ≠ (s.heap.push { cls := .type "set", dict := none, data := .set #[] 0 (.fresh 0 0 (!w.params.followText "set-order")) }).objs.size := by
          rw [Heap.size_push]; exact Nat.ne_of_lt (Nat.lt_succ_of_lt glt)
        have gsS : s.heap.objs.size ∉ [(s.heap.push { cls := .type "set", dict := none, data := .set #[] 0 (.fresh 0 0 (!w.params.followText "set-order")) }).objs.size, sq] := by
          rw [Heap.size_push]; simp only [List.mem_cons, List.mem_singleton, List.not_mem_nil, or_false, not_or]
          exact ⟨Nat.ne_of_lt (Nat.lt_succ_self _), Nat.ne_of_gt glt⟩
        refine upd_gen ((Walks.list g3 _ sq gni its).toS) s.heap.objs.size
          gsS S2 keepS (fun i v A' E' s1 Q' hv => add i v A' E' s1 Q' hv) (its.size - 0) 0 _ (by omega) (Nat.zero_le _)
          ⟨⟨_, Heap.get?_push_size _ rfl, rfl, rfl⟩, (gl1.push _)⟩ ?hS0 ?hR
        case hS0 =>
          have ghet : ((s.heap.push { cls := .type "set", dict := none, data := .set #[] 0 (.fresh 0 0 (!w.params.followText "set-order")) }).push { cls := .type "list_iterator", data := .fields #[.ref sq, .int 0 0] }).get? s.heap.objs.size
              = some { cls := .type "set", dict := none, data := .set #[] 0 (.fresh 0 0 (!w.params.followText "set-order")) } := Heap.get?_push_of_some _ gS
          exact new _ ghet
        case hR =>
          intro s' mv gS'
          obtain ⟨h2', g2, d2, tk2, os2⟩ := s'
          have eg : g2 = s.gens := mv.gens
          have ed : d2 = s.drawn := mv.drawn
          have eo : os2 = s.os := mv.os
          subst eg; subst ed; subst eo
          show wpAny _ _ _ _ _ _
          refine wpAny_pure ?_
          show wpAny _ _ (ret Value.none) _ _ _
          refine wpAny_pure ⟨rfl, h2', tk2, rfl, gS', fun b o e => ?_⟩
          have lb0 : b < s.heap.objs.size := Heap.lt_size e
          have lb1 : b ≠ s.heap.objs.size := Nat.ne_of_lt lb0
          have lb2 : b ≠ (s.heap.push { cls := .type "set", dict := none, data := .set #[] 0 (.fresh 0 0 (!w.params.followText "set-order")) }).objs.size := by
            rw [Heap.size_push]; exact Nat.ne_of_lt (Nat.lt_succ_of_lt lb0)
          exact mv.heap b o (by simp only [List.mem_cons, List.mem_singleton, List.not_mem_nil, or_false, not_or]; exact ⟨lb1, lb2⟩) (Heap.get?_push_of_some _ (Heap.get?_push_of_some _ e))

      · cases r2 with
        | error e => exact hr2
        | ok fl2 =>
          cases fl2 with
          | ret r =>
            obtain ⟨rfl, h2', tk, rfl, gS', gk'⟩ := hr2
            repeat (any_goals (first | assumption | wp_step))
            exact h _ _ gS' gk'
          | _ => exact hr2.elim
    | _ => exact hr.elim

end
end K3
set_option Elab.async false
set_option linter.all false
set_option maxRecDepth 100000
set_option maxHeartbeats 3200000
/-! KY: sets of ints and of texts, sorted; len(set(..)). -/
namespace K3
open PySem PySem.Spec PyProof.Rows L2

/-! ### ints -/
section
variable {P : Program} {w : World} {A : Around} {E : Value → Shared → Prop} {s : Shared}
theorem take_dec {ns : List Int} {i : Nat} (hi : i < ns.length) (j : Int) : decide (j ∈ ns.take (i + 1)) = (decide (j ∈ ns.take i) || decide (j = ns[i])) := by
  have e : ns.take (i + 1) = ns.take i ++ [ns[i]] := by
    rw [List.take_add_one, List.getElem?_eq_getElem hi] <;> rfl
  rw [Bool.eq_iff_iff, Bool.or_eq_true, decide_eq_true_eq, decide_eq_true_eq, decide_eq_true_eq, e, List.mem_append, List.mem_singleton]
theorem scan_big : 1002 < scanBound := by unfold scanBound; decide
theorem call_set_ints {l : Addr} {its : Array Value} (ns : List Int) {Q : Value → Shared → Prop} (hh : A.handled = none) (hl : s.heap.IsList l its) (hit : IntsAre its.toList ns) (hb : ns.length + 1 < scanBound)
    (h : ∀ (h' : Heap) (tk c : Nat), SetR w h' s.heap.objs.size (fun j => decide (j ∈ ns)) c → c ≤ ns.length → (∀ b o, s.heap.get? b = some o → h'.get? b = some o) → Q (.ref s.heap.objs.size) { s with heap := h', toks := tk }) :
    wpAny (model P w) A (call (.type "set") [.ref l]) Q E s := by
  have len : its.size = ns.length := by rw [← Array.length_toList]; exact hit.length
  refine call_set_gen (fun i h => ∃ c, c ≤ i ∧ SetR w h s.heap.objs.size (fun j => decide (j ∈ ns.take i)) c) hh hl (fun h g => ⟨0, Nat.le_refl 0, setR_new_at g⟩) (fun i h h' ⟨c, hc, R⟩ k => ⟨c, hc, R.at k⟩) (fun i v A' E' s1 Q' hv ⟨c, hc, R⟩ q => ?_) fun h2 tk ⟨c, hc, R⟩ k => ?_
  · have hi : i < ns.length := by rw [← len]; exact (Array.getElem?_eq_some_iff.mp hv).1
    obtain ⟨t, e⟩ := PyProof.Rows.IntsAre.int_at hit i v (by rw [Array.getElem?_toList]; exact hv)
    have ez : ns.getD i 0 = ns[i] := by rw [List.getD_eq_getElem?_getD, List.getElem?_eq_getElem hi] <;> rfl
    rw [ez] at e
    subst e
    unfold setAdd
    refine wpAny_holding (wpAny_bind ((intKind P w).pyHash (k := ns[i]) (intKind_is _ _ _ _) ?_))
    refine setR_add_hashed (s := { s1 with toks := s1.toks + 1 }) R (Nat.lt_of_le_of_lt (Nat.succ_le_succ (Nat.le_trans hc (Nat.le_of_lt hi))) hb) fun h' sb R2 => ?_
    have e1 : ∀ j, decide (j ∈ ns.take (i + 1)) = (decide (j ∈ ns.take i) || decide (j = ns[i])) := fun j => take_dec hi j
    have c3 : (if decide (ns[i] ∈ ns.take i) = true then c else c + 1) ≤ i + 1 := by split <;> omega
    exact q _ h' _ (Nat.le_succ _) sb ⟨_, c3, R2.congr e1⟩
  · have e : ns.take its.size = ns := List.take_of_length_le (by rw [len]; exact Nat.le_refl _)
    simp only [e] at R
    exact h h2 tk c R (by rw [← len]; exact hc) k
end
/-- set(xs) of a list of ints, as a value of the V side -/
def rSetI (w : World) (K : PySem.W.Frag) : List V → Hp → VK → Prop := fun vs H Q => ∃ a, ∃ ns : List Int, vs = [.ref a] ∧ SqL K H a (ns.map V.int) ∧ ns.length < 1000 ∧ ∀ p c, H p = none → c ≤ ns.length → Q (.ref p) (upd H p (SetO w p (fun j => decide (j ∈ ns)) c))
theorem cr_setI {X : Cx} (hc : X.calm = true) : CallR X (.type "set") (rSetI X.w X.K) := by
  intro pins s σ H vs us Q I r ⟨a, ns, e, hs, hz, q⟩
  subst e
  obtain ⟨u, rfl, rx⟩ := r.one
  cases rx
  obtain ⟨its, rv, pl, _⟩ := I.list hs
  have hi := rv.ints
  refine call_set_ints ns (I.ok.hd hc) pl.isList (by simpa using hi) (Nat.lt_trans (by omega) scan_big) fun h' tk c R hc' kp => ?_
  exact ⟨.ref s.heap.objs.size, _, I.laid (t' := tk) kp (Nat.le_refl _) (setO_new R), rfl, q _ c (I.hok.fresh (Nat.le_refl _)) hc'⟩
section
variable {X : Cx} {e : Expr} {p p2 q pos : Pos} {de : DE}
/-- sorted(set(xs)) of ints: the different ones, rising -/
def dSortSet (de : DE) : DE := fun ρ μ Φ => de ρ μ fun x μ1 => match x with
  | .lst ds => ∃ ns : List Int, ds = ns.map dI ∧ ns.length < 64 ∧ ∀ ms : List Int, ms.Pairwise (· < ·) → (∀ k, k ∈ ms ↔ k ∈ ns) → Φ (.lst (ms.map dI)) μ1
  | _ => False
theorem q_sortSet (hc : X.calm = true) (hg : Gl X "sorted") (hm : X.mg "sorted" = none) (hg2 : Gl X "set") (hm2 : X.mg "set" = none) (he : QE X e de) (na : starEach [e] X.env = (false, eval e X.env) :: starEach [] X.env := by rfl)
    (nb : starEach [.Call (.Name "set" p2) [e] [] q] X.env = (false, eval (.Call (.Name "set" p2) [e] [] q) X.env) :: starEach [] X.env := by rfl) : QE X (.Call (.Name "sorted" p) [.Call (.Name "set" p2) [e] [] q] [] pos) (dSortSet de) := by
  refine pe_imp (pe_callB (cr_sortedSet hc) hg hm (by decide +kernel) (pa_cons (pe_callTy (cr_setI hc) hg2 hm2 (by decide +kernel) (pa_cons he pa_nil na) (he := na)) pa_nil nb) (he := nb)) ?_
  rintro σ H Q ⟨Z, F, ρ, μ, Φ, w, h, k⟩
  refine ⟨Z, F, ρ, μ, _, w, h, fun v d μ1 F1 H1 s1 w1 r1 h1 => ?_⟩
  split at h1
  · obtain ⟨ns, rfl, hz, h1⟩ := h1
    rw [mapI] at r1
    cases r1 with
    | lst q1 t =>
      rw [t.scal] at q1
      refine ⟨_, ns, rfl, sql_mono w1.sub q1, by omega, fun p c hp hcl => ?_⟩
      have w2 := w1.newG (o := SetO X.w p (fun j => decide (j ∈ ns)) c) hp
      refine ⟨p, _, c, rfl, upd_same, by omega, fun ms p3 h3 hm _ hp3 => ?_⟩
      have s2 : Same F1 (upd F1 p3 (.lst (ms.map V.int))) := same_new (w2.freshF hp3)
      refine k _ (.lst (ms.map dI)) μ1 _ _ (s1.trans s2) (w2.newF hp3) (.lst (SqL.of upd_same) ?_) (h1 ms h3 fun j => by rw [hm j, decide_eq_true_eq])
      rw [mapI]; exact Reps.of_scal _
  · exact h1.elim
/-- len(set(xs)) of different ints -/
def dLenSet (de : DE) : DE := fun ρ μ Φ => de ρ μ fun x μ1 => match x with
  | .lst ds => ∃ ns : List Int, ds = ns.map dI ∧ ns.length < 64 ∧ ns.Nodup ∧ Φ (dI (ns.length : Nat)) μ1
  | _ => False
theorem q_lenSet (hc : X.calm = true) (hg : Gl X "len") (hm : X.mg "len" = none) (hg2 : Gl X "set") (hm2 : X.mg "set" = none) (he : QE X e de) (na : starEach [e] X.env = (false, eval e X.env) :: starEach [] X.env := by rfl) :
    QE X (.Call (.Name "len" p) [.Call (.Name "set" p2) [e] [] q] [] pos) (dLenSet de) := by
  refine pe_imp (L2.pe_lenSetI hc hg hm hg2 hm2 he na) ?_
  rintro σ H Q ⟨Z, F, ρ, μ, Φ, w, h, k⟩
  refine ⟨Z, F, ρ, μ, _, w, h, fun v d μ1 F1 H1 s1 w1 r1 h1 => ?_⟩
  split at h1
  · obtain ⟨ns, rfl, hz, nd, h1⟩ := h1
    rw [mapI] at r1
    cases r1 with
    | lst q1 t =>
      rw [t.scal] at q1
      exact ⟨_, ns, rfl, sql_mono w1.sub q1, hz, nd, k _ _ μ1 F1 H1 s1 w1 (.v _) h1⟩
  · exact h1.elim
theorem setR_len {w : World} {h : Heap} {a : Addr} {ns : List Int} {c : Nat} (R : SetR w h a (fun j => decide (j ∈ ns)) c) (nd : ns.Nodup) : c = ns.length := by
  obtain ⟨o, es, ep, t, _, _, _, _, nk, hm, _, _, hn, _⟩ := R
  have pm : (es.toList.map keyOf).Perm ns := (List.perm_ext_iff_of_nodup nk nd).mpr fun k => by rw [← hm k, decide_eq_true_eq]
  have := pm.length_eq
  rw [List.length_map, Array.length_toList] at this
  rw [← hn, this]
def tLenSetT (K : PySem.W.Frag) (ta : TE) : TE := fun σ H Q => ta σ H fun x H1 => ∃ (l : Addr) (ns : List Int), x = V.ref l ∧ SqT K H1 l (ns.map V.int) ∧ ns.length < 64 ∧ ns.Nodup ∧ Q (.int ns.length) H1
theorem pe_lenSetT {a : Expr} {ta : TE} (hc : X.calm = true) (hg : Gl X "len") (hm : X.mg "len" = none) (hg2 : Gl X "set") (hm2 : X.mg "set" = none) (ha : PE X a ta)
    (na : starEach [a] X.env = (false, eval a X.env) :: starEach [] X.env := by rfl) : PE X (.Call (.Name "len" p) [.Call (.Name "set" p2) [a] [] q] [] pos) (tLenSetT X.K ta) := by
  refine ⟨fun pins s σ H Q I h => ?_⟩
  refine Call_ (ld_blt I hg hm PySem.boot_len (PyProof.Rows.callWith_builtin1 (PyProof.Rows.args_cons ?_ rfl) rfl rfl))
  refine Call_ (ld_blt I hg2 hm2 PyProof.Rows.boot_set (PyProof.Rows.callWith_type1 (PyProof.Rows.args_cons (thn (ha.run pins s σ H _ I h) fun v s1 ⟨x, H1, I1, r1, q1⟩ => PyProof.Rows.args_nil ?_) na) na rfl))
  obtain ⟨l, ns, ex, hq, hz, nd, q1⟩ := q1
  subst ex
  cases r1
  obtain ⟨its, r, tp, _⟩ := I1.tuple hq
  refine call_set_tupI ns (I1.ok.hd hc) (show s1.heap.IsTuple l its.toArray from tp) (by simpa using r.ints) (Nat.lt_trans (by omega) scan_big) fun h' tk c R hcl kp => PyProof.Rows.args_nil ?_
  have ec := setR_len R nd
  obtain ⟨o, es, ep, t, ho, hex, hd, _, _, _, _, hf, hn, _⟩ := R
  have I2 : Inv X pins σ H1 { s1 with heap := h', toks := tk } := I1.kept fun b o e => kp b o e
  exact call_len_set ho hex hd hf (by rw [hn, ec]; omega) ⟨.int ns.length, H1, I2.tok _, ⟨_, by rw [hn, ec]⟩, q1⟩
def dLenSetT (de : DE) : DE := fun ρ μ Φ => de ρ μ fun x μ1 => match x with
  | .tup ds => ∃ ns : List Int, ds = ns.map dI ∧ ns.length < 64 ∧ ns.Nodup ∧ Φ (dI (ns.length : Nat)) μ1
  | _ => False
theorem q_lenSetT (hc : X.calm = true) (hg : Gl X "len") (hm : X.mg "len" = none) (hg2 : Gl X "set") (hm2 : X.mg "set" = none) (he : QE X e de) (na : starEach [e] X.env = (false, eval e X.env) :: starEach [] X.env := by rfl) :
    QE X (.Call (.Name "len" p) [.Call (.Name "set" p2) [e] [] q] [] pos) (dLenSetT de) := by
  refine pe_imp (pe_lenSetT hc hg hm hg2 hm2 he na) ?_
  rintro σ H Q ⟨Z, F, ρ, μ, Φ, w, h, k⟩
  refine ⟨Z, F, ρ, μ, _, w, h, fun v d μ1 F1 H1 s1 w1 r1 h1 => ?_⟩
  split at h1
  · obtain ⟨ns, rfl, hz, nd, h1⟩ := h1
    rw [mapI] at r1
    cases r1 with
    | tup q1 t =>
      rw [t.scal] at q1
      exact ⟨_, ns, rfl, sqt_mono w1.sub q1, hz, nd, k _ _ μ1 F1 H1 s1 w1 (.v _) h1⟩
  · exact h1.elim
end
end K3
set_option Elab.async false
set_option linter.all false
set_option maxRecDepth 100000
set_option maxHeartbeats 3200000
/-! KZ: sorted(set(xs)) of texts: a list of texts, which ones is not told. -/
namespace K3
open PySem PySem.Spec PyProof.Rows L2

abbrev kS (P : Program) (w : World) : PySem.KeyKind P w Str := PySem.strKind P w
def GoodS (P : Program) (w : World) (e : Int × Value) : Prop := ∃ k t, e.2 = Value.str k t ∧ e.1 = (kS P w).hash k
/-- at most m texts -/
def SetS (P : Program) (w : World) (m : Nat) (h : Heap) (a : Addr) : Prop :=
  ∃ o es ep t, h.get? a = some o ∧ o.ExactSet ∧ o.data = .set es ep t ∧ (∀ e ∈ es.toList, GoodS P w e) ∧ es.size ≤ m ∧ t.fits es.size = true ∧ Ris t.place.toList ∧ (w.params.followText "set-order" = true ∨ t.led = true)
section
variable {P : Program} {w : World} {A : Around} {E : Value → Shared → Prop} {s : Shared}
theorem SetS.at {m : Nat} {h h' : Heap} {a : Addr} (R : SetS P w m h a) (k : ∀ o, h.get? a = some o → h'.get? a = some o) : SetS P w m h' a := by
  obtain ⟨o, es, ep, t, ho, r⟩ := R
  exact ⟨o, es, ep, t, k o ho, r⟩
theorem goodS_elems {l : List (Int × Value)} (g : ∀ e ∈ l, GoodS P w e) : ElemsOf (kS P w) l := fun e he => by
  obtain ⟨k, t, e1, e2⟩ := g e he
  exact ⟨⟨k, by rw [e1]; exact strKind_is P w k t, e2⟩, by rw [e1] <;> rfl⟩
theorem setS_new {h : Heap} {a : Addr} (ho : h.get? a = some { cls := .type "set", dict := none, data := .set #[] 0 (.fresh 0 0 (!w.params.followText "set-order")) }) : SetS P w 0 h a :=
  ⟨_, #[], 0, _, ho, ⟨rfl, rfl, rfl⟩, rfl, (fun e he => by simp at he), Nat.le_refl 0, (by rfl), List.Pairwise.nil, by
    show _ ∨ (!w.params.followText "set-order") = true
    cases w.params.followText "set-order"
    · exact .inr rfl
    · exact .inl rfl⟩
theorem setS_tail {g : Bool → Sem Unit} (hg : ∀ (b : Bool) (t : Shared) (Q' : Unit → Shared → Prop), Q' () t → wpAny (model P w) A (g b) Q' E t) {a : Addr} {m : Nat}
    {o : Obj} {es : Array (Int × Value)} {ep : Nat} {t : SetTable} (ho : s.heap.get? a = some o) (hex : o.ExactSet) (hd : o.data = .set es ep t)
    {es1 : Array (Int × Value)} {t2 : SetTable} (g1 : ∀ e ∈ es1.toList, GoodS P w e) (z1 : es1.size ≤ m) (zb : es1.size < scanBound) (f2 : t2.fits es1.size = true) (r2 : Ris t2.place.toList) (l2 : w.params.followText "set-order" = true ∨ t2.led = true) {wd : Bool} {R : Option Bool → Shared → Prop}
    (hR : ∀ h', Heap.SameBut a s.heap h' → SetS P w m h' a → R (some true) { s with heap := h' }) :
    wpAny (model P w) A (do
        storeSet a es1 t2
        if (!wd && t2.tooFull) = true then do
            g (relayAll t2 es1 (SetTable.grown es1.size)).2.2
            storeSet a (relayAll t2 es1 (SetTable.grown es1.size)).1 (relayAll t2 es1 (SetTable.grown es1.size)).2.1
            pure (some true)
          else pure (some true)) R E s := by
  refine wpAny_bind (wpAny_storeSet_of ho hd ?_ (fits_of_scanBound zb))
  have o1 := store_at (es' := es1) (t' := t2) ho hd
  have b1 := Heap.SameBut.update s.heap a (Obj.putSet es1 t2)
  split
  · have pm := relayAll_perm t2 es1 (SetTable.grown es1.size)
    have f3 := relayAll_fits t2 es1 (SetTable.grown es1.size)
    have r3 := relayAll_ris t2 es1 (SetTable.grown es1.size)
    have l3 := relayAll_led t2 es1 (SetTable.grown es1.size)
    generalize relayAll t2 es1 (SetTable.grown es1.size) = Y at pm f3 r3 l3 ⊢
    obtain ⟨es2, t3, gave⟩ := Y
    dsimp only at pm f3 r3 l3 ⊢
    have sz : es2.size = es1.size := by rw [← Array.length_toList, pm.length_eq, Array.length_toList]
    refine wpAny_bind (hg _ _ _ ?_)
    refine wpAny_bind (wpAny_storeSet_of o1 rfl ?_ (fits_of_scanBound (by rw [sz]; exact zb)))
    have o2 := store_at (es' := es2) (t' := t3) o1 rfl
    exact wpAny_pure (hR _ (b1.trans (Heap.SameBut.update _ a _)) ⟨_, es2, _, t3, o2, hex, rfl, fun e he => g1 e (pm.mem_iff.mp he), by rw [sz]; exact z1, f3, r3, l2.imp id fun z => by rw [l3]; exact z⟩)
  · exact wpAny_pure (hR _ b1 ⟨_, es1, _, t2, o1, hex, rfl, g1, z1, f2, r2, l2⟩)
theorem setS_add {a : Addr} {m : Nat} {k : Str} {tk : Tok} {Q : Bool → Shared → Prop} (R : SetS P w m s.heap a) (room : m + 1 < scanBound)
    (hQ : ∀ b h', Heap.SameBut a s.heap h' → SetS P w (m + 1) h' a → Q b { s with heap := h' }) : wpAny (model P w) A (setAddHashed a (.str k tk) ((kS P w).hash k)) Q E s := by
  obtain ⟨o, es, ep, t, ho, hex, hd, g, hm, hf, hr, hl⟩ := R
  have zb : es.size < scanBound := by omega
  have key : (kS P w).is k (.str k tk) = true := strKind_is P w k tk
  have sc : (Value.str k tk).scannable = true := rfl
  have el : ElemsOf (kS P w) es.toList := goodS_elems g
  unfold setAddHashed setAddHashedIn
  refine wpAny_holding (wpAny_bind (wpAny_setState_of ho hd hf ?_))
  dsimp only
  rw [byScan_of sc zb el]
  simp only [↓reduceIte]
  unfold setAddByScan
  refine wpAny_bind ?_
  refine wpAny_bind (wpAny_rule ?_)
  refine wpAny_bind (wpAny_setScan_of key ho hd hf el ?_)
  cases fi : List.findIdx? (fun e => (kS P w).is k e.2) es.toList with
  | some j =>
    dsimp only
    exact wpAny_pure (wpAny_pure (hQ false s.heap (Heap.SameBut.refl a s.heap) ⟨o, es, ep, t, ho, hex, hd, g, by omega, hf, hr, hl⟩))
  | none =>
    dsimp only
    have gw : ∀ (b : Bool) {t : Shared} {Q' : Unit → Shared → Prop}, Q' () t → wpAny (model P w) A (match b with | true => rule "set.scan.the-table-gave-way" | false => pure ()) Q' E t :=
      fun b t Q' q => by cases b <;> first | exact wpAny_pure q | exact wpAny_rule q
    have pm := layNew_perm t es ((kS P w).hash k) (.str k tk)
    have f1 := layNew_fits t es ((kS P w).hash k) (.str k tk)
    have r1 := layNew_ris t es ((kS P w).hash k) (.str k tk) hr
    have l1 := layNew_led t es ((kS P w).hash k) (.str k tk)
    generalize layNew t es ((kS P w).hash k) (.str k tk) = Y at pm f1 r1 l1 ⊢
    obtain ⟨es1, t1, wd, gave⟩ := Y
    dsimp only at pm f1 r1 l1 ⊢
    rw [Array.toList_push] at pm
    have pc : es1.toList.Perm (((kS P w).hash k, Value.str k tk) :: es.toList) := pm.trans (List.perm_append_singleton _ _)
    have g1 : ∀ e ∈ es1.toList, GoodS P w e := fun e he => by
      rcases List.mem_cons.mp (pc.mem_iff.mp he) with z | z
      · rw [z]; exact ⟨k, tk, rfl, rfl⟩
      · exact g e z
    have z1 : es1.size ≤ m + 1 := by
      have e : es1.size = es.size + 1 := by rw [← Array.length_toList, pc.length_eq, List.length_cons, Array.length_toList]
      omega
    have zb1 : es1.size < scanBound := Nat.lt_of_le_of_lt z1 room
    have led : w.params.followText "set-order" = true ∨ t1.led = true := hl.imp id fun z => by rw [l1]; exact z
    refine wpAny_bind (gw _ ?_)
    split
    · refine wpAny_bind ?_
      rw [hashByValue_scannable 8 sc]
      refine wpAny_pure ?_
      refine setS_tail ?_ ho hex hd g1 z1 zb1 ?_ ?_ ?_ ?_
      · intro b t Q' q; cases b <;> first | exact wpAny_pure q | exact wpAny_rule q
      · first | (split <;> first | exact f1 | exact SetTable.fits_plain_off f1) | exact f1
      · first | (split <;> exact r1) | exact r1
      · first | (split <;> exact led) | exact led
      · intro h' sb r; dsimp only; exact wpAny_pure (hQ _ h' sb r)
    · refine wpAny_bind (wpAny_pure ?_)
      simp only [↓reduceIte]
      refine setS_tail ?_ ho hex hd g1 z1 zb1 f1 r1 led ?_
      · intro b t Q' q; cases b <;> first | exact wpAny_pure q | exact wpAny_rule q
      · intro h' sb r; dsimp only; exact wpAny_pure (hQ _ h' sb r)
theorem call_set_texts {l : Addr} {its : Array Value} (xs : List Str) {Q : Value → Shared → Prop} (hh : A.handled = none) (hl : s.heap.IsList l its) (hit : StrsAre its.toList xs) (hb : xs.length + 1 < scanBound)
    (h : ∀ (h' : Heap) (tk : Nat), SetS P w xs.length h' s.heap.objs.size → (∀ b o, s.heap.get? b = some o → h'.get? b = some o) → Q (.ref s.heap.objs.size) { s with heap := h', toks := tk }) :
    wpAny (model P w) A (call (.type "set") [.ref l]) Q E s := by
  have len : its.size = xs.length := by rw [← Array.length_toList]; exact hit.length
  refine call_set_gen (fun i h => i ≤ its.size ∧ SetS P w i h s.heap.objs.size) hh hl (fun h g => ⟨Nat.zero_le _, setS_new g⟩) (fun i h h' R k => ⟨R.1, R.2.at k⟩) (fun i v A' E' s1 Q' hv R q => ?_) fun h2 tk R k => ?_
  · have hi : i < its.size := (Array.getElem?_eq_some_iff.mp hv).1
    obtain ⟨x, t, e⟩ := hit.all v (List.mem_iff_getElem?.mpr ⟨i, by rw [Array.getElem?_toList]; exact hv⟩)
    subst e
    unfold setAdd
    refine wpAny_holding (wpAny_bind ((kS P w).pyHash (k := x) (strKind_is _ _ _ _) ?_))
    exact setS_add (s := { s1 with toks := s1.toks + 1 }) R.2 (by omega) fun b h' sb R2 => q b h' _ (Nat.le_succ _) sb ⟨hi, R2⟩
  · exact h h2 tk (by rw [← len]; exact R.2) k
theorem texts_of : ∀ (l : List Value), (∀ v ∈ l, ∃ k t, v = Value.str k t) → ∃ xs, StrsAre l xs
  | [], _ => ⟨[], .nil⟩
  | v :: l, h => by
    obtain ⟨k, t, rfl⟩ := h v List.mem_cons_self
    obtain ⟨xs, r⟩ := texts_of l fun u m => h u (List.mem_cons_of_mem _ m)
    exact ⟨k :: xs, .cons k t r⟩
theorem sorted_texts {a : Addr} {m : Nat} {Q : Value → Shared → Prop} (R : SetS P w m s.heap a) (hh : A.handled = none) (hb : m < scanBound)
    (hQ : ∀ s' p (out : Array Value) (c : Nat) (xs : List Str), (∀ b o, s.heap.get? b = some o → s'.heap.get? b = some o) → s'.gens = s.gens → s'.os = s.os → s.heap.objs.size ≤ p →
      s'.heap.get? p = some (seqObj "list" out c) → StrsAre out.toList xs → xs.length ≤ m → Q (.ref p) s') :
    wpAny (model P w) A (call (.builtin "sorted") [.ref a]) Q E s := by
  obtain ⟨o, es, ep, t, ho, hex, hd, g, hm, hf, hr, hl⟩ := R
  refine Calls.call_function_entry kind_sorted plain_sorted entry_sorted (args_sorted1 _) ?_
  unfold Builtin.«sorted»
  refine wpAny_bind (m := checkCount "sorted" 1 1 _) (wpAny_pure ?_)
  refine wpAny_bind (collect_set (A := A.in1) hh ⟨o, ho, hex.1, hd⟩ hf (by omega) hr hl fun t1 vs k1 hz g1 o1 pm => ?_)
  have vl : vs.length ≤ m := by rw [pm.length_eq, List.length_map, Array.length_toList]; exact hm
  obtain ⟨ss, hS⟩ := texts_of vs fun v hv => by
    obtain ⟨e, he, q⟩ := List.mem_map.mp (pm.mem_iff.mp hv)
    obtain ⟨k, t, e1, _⟩ := g e he
    exact ⟨k, t, by rw [← q]; exact e1⟩
  have zl : vs.length ≤ sizeLine := Nat.le_trans vl (fits_of_scanBound hb)
  refine wpAny_bind (wpAny_newList ?_ zl)
  have oL : (t1.heap.push (seqObj "list" vs.toArray 0)).get? t1.heap.objs.size = some (seqObj "list" vs.toArray 0) := Heap.get?_push_size _ rfl
  refine wpAny_bind (wpAny_holding (wpAny_call_entry slot_list_sort ⟨_, oL, rfl⟩ entry_list_sort (list_sort_treeKAny strKind_oneLt oL hS.keysOf (fun v₁ v₂ rest e => keyKind_strs (by rw [← e]; exact hS)) zl fun st hp hs => ⟨_, rfl, ?_⟩) (args_list_sort _)))
  obtain ⟨xs, h1, h2, _⟩ := sorted_out_str hS hp hs
  obtain ⟨c, hc⟩ := sortedHeap_at (vs := vs) (out := (arrOf st).map (·.2)) oL
  refine wpAny_pure ⟨_, rfl, hQ _ t1.heap.objs.size _ c xs (fun b u e => ?_) g1 o1 hz hc h1 (by rw [h2.length_eq, ← hS.length]; exact vl)⟩
  have q := k1 b u e
  have lt := Heap.lt_size q
  show (sortedHeap (t1.heap.push (seqObj "list" vs.toArray 0)) t1.heap.objs.size vs _).get? b = some u
  rw [sortedHeap_old (Nat.ne_of_lt lt) (by rw [size_push']; exact Nat.lt_succ_of_lt lt)]
  exact Heap.get?_push_of_some _ q
end
def SetSO (P : Program) (w : World) (m : Nat) (a : Addr) : HO := .ext fun h => SetS P w m h a
def rSetT (P : Program) (w : World) (K : PySem.W.Frag) : List V → Hp → VK → Prop := fun vs H Q => ∃ a, ∃ xs : List Str, vs = [.ref a] ∧ SqL K H a (xs.map V.str) ∧ xs.length < 1000 ∧ ∀ p, H p = none → Q (.ref p) (upd H p (SetSO P w xs.length p))
theorem cr_setT {X : Cx} (hc : X.calm = true) : CallR X (.type "set") (rSetT X.prog X.w X.K) := by
  intro pins s σ H vs us Q I r ⟨a, xs, e, hs, hz, q⟩
  subst e
  obtain ⟨u, rfl, rx⟩ := r.one
  cases rx
  obtain ⟨its, rv, pl, _⟩ := I.list hs
  have hi := rv.strs
  refine call_set_texts xs (I.ok.hd hc) pl.isList (by simpa using hi) (Nat.lt_trans (by omega) scan_big) fun h' tk R kp => ?_
  obtain ⟨o, es, ep, t, ho, r⟩ := id R
  exact ⟨.ref s.heap.objs.size, _, I.laid (o := SetSO X.prog X.w xs.length s.heap.objs.size) (t' := tk) kp (Nat.le_refl _) ⟨R, ⟨o, ho⟩, fun h1 h2 p k => by first | exact SetS.at p k | exact SetS.at k p⟩, rfl, q _ (I.hok.fresh (Nat.le_refl _))⟩
def rSortT (P : Program) (w : World) : List V → Hp → VK → Prop := fun vs H Q => ∃ a m, vs = [V.ref a] ∧ H a = some (SetSO P w m a) ∧ m < 1000 ∧ ∀ (xs : List Str) p, xs.length ≤ m → H p = none → Q (.ref p) (upd H p (.lst (xs.map V.str)))
theorem cr_sortTx {X : Cx} (hc : X.calm = true) : CallR X (.builtin "sorted") (rSortT X.prog X.w) := by
  intro pins s σ H vs us Q I r ⟨a, m, e, ha, hm, q⟩
  subst e
  have R : SetS X.prog X.w m s.heap a := (I.hok a _ ha).1
  obtain ⟨u, rfl, rx⟩ := r.one
  cases rx
  refine sorted_texts R (I.ok.hd hc) (Nat.lt_trans hm (Nat.lt_trans (by decide) scan_big)) fun s' p out c xs k g o hp hg hi hl => ?_
  have hlen : (xs.map V.str).length ≤ sizeLine := by rw [List.length_map, sizeLine_eq]; omega
  have hn : H p = none := I.hok.fresh hp
  have J : Inv X pins σ (upd H p (.lst (xs.map V.str))) { s with heap := s'.heap, gens := s'.gens, drawn := s'.drawn, toks := s'.toks } :=
    I.call (ch := []) (Un.laid k hp hn) (I.hok.laid k hp ⟨hlen, out.toList, c, vals_of_strs hi, hg⟩) (by rw [g]; exact I.bare) (fun _ z => nomatch z)
  have e : s' = { s with heap := s'.heap, gens := s'.gens, drawn := s'.drawn, toks := s'.toks } := by
    cases s'
    cases s
    cases o
    rfl
  rw [e]
  exact ⟨.ref p, _, J, rfl, q xs p hl hn⟩
section
variable {X : Cx} {e : Expr} {p p2 q pos : Pos} {de : DE}
/-- sorted(set(xs)) of texts -/
def dSortTx (de : DE) : DE := fun ρ μ Φ => de ρ μ fun x μ1 => match x with
  | .lst ds => ∃ xs : List Str, ds = xs.map dS ∧ xs.length < 1000 ∧ ∀ ys : List Str, ys.length ≤ xs.length → Φ (.lst (ys.map dS)) μ1
  | _ => False
theorem q_sortTx (hc : X.calm = true) (hg : Gl X "sorted") (hm : X.mg "sorted" = none) (hg2 : Gl X "set") (hm2 : X.mg "set" = none) (he : QE X e de) (na : starEach [e] X.env = (false, eval e X.env) :: starEach [] X.env := by rfl)
    (nb : starEach [.Call (.Name "set" p2) [e] [] q] X.env = (false, eval (.Call (.Name "set" p2) [e] [] q) X.env) :: starEach [] X.env := by rfl) : QE X (.Call (.Name "sorted" p) [.Call (.Name "set" p2) [e] [] q] [] pos) (dSortTx de) := by
  refine pe_imp (pe_callB (cr_sortTx hc) hg hm (by decide +kernel) (pa_cons (pe_callTy (cr_setT hc) hg2 hm2 (by decide +kernel) (pa_cons he pa_nil na) (he := na)) pa_nil nb) (he := nb)) ?_
  rintro σ H Q ⟨Z, F, ρ, μ, Φ, w, h, k⟩
  refine ⟨Z, F, ρ, μ, _, w, h, fun v d μ1 F1 H1 s1 w1 r1 h1 => ?_⟩
  split at h1
  · obtain ⟨xs, rfl, hz, h1⟩ := h1
    rw [mapS] at r1
    cases r1 with
    | lst q1 t =>
      rw [t.scal] at q1
      refine ⟨_, xs, rfl, sql_mono w1.sub q1, hz, fun p hp => ?_⟩
      have w2 := w1.newG (o := SetSO X.prog X.w xs.length p) hp
      refine ⟨p, _, rfl, upd_same, hz, fun ys p3 hl hp3 => ?_⟩
      have s2 : Same F1 (upd F1 p3 (.lst (ys.map V.str))) := same_new (w2.freshF hp3)
      refine k _ (.lst (ys.map dS)) μ1 _ _ (s1.trans s2) (w2.newF hp3) (.lst (SqL.of upd_same) ?_) (h1 ys hl)
      rw [mapS]; exact Reps.of_scal _
  · exact h1.elim
end
end K3
set_option Elab.async false
set_option linter.all false
set_option maxRecDepth 100000
set_option maxHeartbeats 1600000
/-! KO: None in a list of None and of instances with an own ==. -/
namespace K3
open PySem PySem.Spec PyProof.Rows L2
open SeqAt MeetsSeq MeetsSeq2 MeetsSeq3 SeqRoads2
open AutoSeq1 (wpAny_loadPart')

section
variable {prog : Program} {w : World} {A : Around}
/-- x in xs, where == may do something: I i: i items were asked -/
theorem has_loop (l : Addr) (items : Array Value) (x : Value) (e : Value → Bool) (I : Shared → Prop) {R : Result → Shared → Prop}
    (hl : ∀ s, I s → ∃ n dd sl, s.heap.get? l = some { cls := .type "list", dict := dd, data := .seq items n, slots := sl })
    (turn : ∀ (i : Nat) (h : i < items.size) s, I s → wpAny (model prog w) A.in1 (eqBool items[i] x) (fun r s' => r = e items[i] ∧ I s') (fun e s' => R (.error e) s') s)
    (fin : ∀ s, I s → R (.ok (.ret (.bool (items.any e)))) s) (k : Nat) : ∀ i : Nat, items.size - i = k → (∀ (j : Nat) (h : j < items.size), j < i → e items[j] = false) → ∀ s, I s →
      wpAny (model prog w) A.in1 (Builtin.«list.__contains__.loop» ⟨[.ref l, x, rawInt i], []⟩) (GQ.FinOf prog w A R) (fun e s' => R (.error e) s') s := by
  induction k with
  | zero =>
    intro i hk hn s hI
    obtain ⟨n, dd, sl, hls⟩ := hl s hI
    have q := fin s hI
    have ea : items.any e = false := by
      rw [Array.any_eq_false]
      intro j hj
      rw [hn j hj (by omega)]
      exact Bool.false_ne_true
    rw [ea] at q
    obtain ⟨hp, g, d, tk, os⟩ := s
    wp_walk using wpAny_loadPart' hls
    have hi : items[((i : Nat) : Int).toNat]? = none := by simp; omega
    rw [hi]
    wp_walk
    exact q
  | succ k ih =>
    intro i hk hn s hI
    obtain ⟨n, dd, sl, hls⟩ := hl s hI
    have lt : i < items.size := by omega
    have t := turn i lt s hI
    obtain ⟨hp, g, d, tk, os⟩ := s
    wp_walk using wpAny_loadPart' hls
    have hi : items[((i : Nat) : Int).toNat]? = some items[i] := by simp [lt]
    rw [hi]
    refine wpAny_bind (wpAny_mono t (fun r s2 q => ?_) fun _ _ z => z)
    obtain ⟨er, hI2⟩ := q
    cases hb : e items[i] with
    | true =>
      have ea : items.any e = true := by
        rw [Array.any_eq_true]
        exact ⟨i, lt, hb⟩
      have q2 := fin s2 hI2
      rw [ea] at q2
      rw [er, hb]
      obtain ⟨hp2, g2, d2, tk2, os2⟩ := s2
      wp_walk
      exact q2
    | false =>
      rw [er, hb]
      have hc : ((i : Int) + 1) = ((i + 1 : Nat) : Int) := by omega
      have hrec := ih (i + 1) (by omega) (fun j hj lj => by
        rcases Nat.lt_or_ge j i with z | z
        · exact hn j hj z
        · have : j = i := by omega
          subst this; exact hb) s2 hI2
      obtain ⟨hp2, g2, d2, tk2, os2⟩ := s2
      wp_walk
      rw [hc]
      exact ⟨plainId_quiet plain_contains_loop _, codeAny_builtin entry_contains_loop (by
        rw [Around.under_plainId plain_contains_loop _]
        exact hrec)⟩
theorem has_list (l : Addr) (items : Array Value) (x : Value) (e : Value → Bool) (I : Shared → Prop) {R : Result → Shared → Prop} {s : Shared}
    (hl : ∀ s, I s → ∃ n dd sl, s.heap.get? l = some { cls := .type "list", dict := dd, data := .seq items n, slots := sl })
    (turn : ∀ (i : Nat) (h : i < items.size) s, I s → wpAny (model prog w) A.in1 (eqBool items[i] x) (fun r s' => r = e items[i] ∧ I s') (fun e s' => R (.error e) s') s)
    (fin : ∀ s, I s → R (.ok (.ret (.bool (items.any e)))) s) (h : I s) : wpAny (model prog w) A.in1 (Builtin.«list.__contains__» ⟨[.ref l, x], []⟩) (GQ.FinOf prog w A R) (fun e s' => R (.error e) s') s := by
  have rec_ := has_loop l items x e I hl turn fin _ 0 rfl (fun j _ z => absurd z (Nat.not_lt_zero j)) s h
  obtain ⟨n, dd, sl, hls⟩ := hl s h
  obtain ⟨hp, g, d, tk, os⟩ := s
  wp_walk using wpAny_loadPart' hls
  exact ⟨plainId_quiet plain_contains_loop _, codeAny_builtin entry_contains_loop (by
    rw [Around.under_plainId plain_contains_loop _]
    exact rec_)⟩
theorem in_list_by {E : Value → Shared → Prop} {Q : Value → Shared → Prop} (l : Addr) (items : Array Value) (x : Value) (e : Value → Bool) (I : Shared → Prop) {s : Shared}
    (hl : ∀ s, I s → ∃ n dd sl, s.heap.get? l = some { cls := .type "list", dict := dd, data := .seq items n, slots := sl })
    (turn : ∀ (i : Nat) (h : i < items.size) s, I s → wpAny (model prog w) A.in1 (eqBool items[i] x) (fun r s' => r = e items[i] ∧ I s') E s)
    (fin : ∀ s, I s → Q (.bool (items.any e)) s) (h : I s) : wpAny (model prog w) A (compareOp .In x (.ref l)) Q E s := by
  obtain ⟨n, dd, sl, hls⟩ := hl s h
  have hT : s.TypeIs (.ref l) "list" := ⟨_, hls, rfl⟩
  refine wpAny_bind (m := contains (.ref l) x) (wpAny_contains_slot hT F.slot_list_contains (GQ.call_here F.slot_list_contains hT F.entry_list_contains (F.args_list_contains_2 _ _) ?_))
  exact has_list (R := wants _ E) l items x e I hl turn (fun s' h' => wpAny_truthy_bool (wpAny_pure (fin s' h'))) h
end
def nonV : Value → Bool
  | .none => true
  | _ => false
/-- None in xs: the items are None, or instances of C, whose own == tells that they are not None -/
def rNoneO (K : PySem.W.Frag) (C : Addr) (sp : Sp) (E : XK) : R2 := fun x y H Q => x = .non ∧ ∃ p xs, y = .ref p ∧ SqL K H p xs ∧ ∃ J : Hp → Prop, J H ∧ (∀ H', J H' → SqL K H' p xs) ∧
  (∀ z ∈ xs, z = .non ∨ ∃ a, z = .ref a ∧ ∀ H', J H' → (∃ dx fs, H' a = some (.ins C dx fs)) ∧ sp [.ref a, .non] H' (fun v H2 => v = .bl false ∧ J H2) E) ∧ ∀ H', J H' → Q (.bl (xs.any isNon)) H'
theorem nonV_rel {z : V} {u : Value} (r : RelV z u) (h : z = .non ∨ ∃ a, z = .ref a) : nonV u = isNon z := by
  rcases h with rfl | ⟨a, rfl⟩
  · cases (show u = Value.none from r); rfl
  · cases (show u = Value.ref a from r); rfl
theorem any_nonV : ∀ {xs : List V} {us : List Value}, Vals xs us → (∀ z ∈ xs, z = .non ∨ ∃ a, z = .ref a) → us.any nonV = xs.any isNon
  | _, _, .nil, _ => rfl
  | z :: xs, u :: us, .cons r t, h => by
    rw [List.any_cons, List.any_cons, nonV_rel r (h z List.mem_cons_self), any_nonV t fun y m => h y (List.mem_cons_of_mem _ m)]
theorem same_nr : ∀ {xs : List V} {us ws : List Value}, Vals xs us → Vals xs ws → (∀ z ∈ xs, z = .non ∨ ∃ a, z = .ref a) → ws = us
  | _, _, _, .nil, .nil, _ => rfl
  | z :: xs, u :: us, w :: ws, .cons r t, .cons r' t', h => by
    have e : w = u := by
      rcases h z List.mem_cons_self with rfl | ⟨a, rfl⟩
      · exact (show w = Value.none from r').trans (show u = Value.none from r).symm
      · exact (show w = Value.ref a from r').trans (show u = Value.ref a from r).symm
    rw [e, same_nr t t' fun y m => h y (List.mem_cons_of_mem _ m)]
theorem looks_none (M : Model) (h : Heap) : PySem.W.Looks M h (typeOf .none) (.type "NoneType") := PySem.W.Looks.of_pure (by rfl)
theorem op_noneO {X : Cx} {CX : CXT} {n : Nat} {C f : Addr} {fd : FuncData} {ps : List Str} {sp : Sp} {E : XK} (F : FnOk X.prog X.w X.K X.mg X.base CX n f fd ps sp) (hr : Room (n + 1) X.A)
    (hs : PySem.W.findIn X.K (.ref C) "__eq__" = some (some (.ref f))) (hf : PySem.W.isFn X.K (.ref f) = true) (hb : Binds X.K fd ps []) (nf : PySem.W.notFirst X.K C (.type "NoneType") = true) (hx : Passes CX X E) : OpR X (compareOp .In) (rNoneO X.K C sp E) := by
  intro pins s σ H x y v u Q I rx ry ⟨e1, p, xs, e2, hl, J, j0, jl, ji, jq⟩
  subst e1 e2
  cases (show v = Value.none from rx)
  cases ry
  have sh : ∀ z ∈ xs, z = .non ∨ ∃ a, z = .ref a := fun z m => (ji z m).imp id fun ⟨a, e, _⟩ => ⟨a, e⟩
  obtain ⟨its, rv, _⟩ := I.list hl
  refine in_list_by p its.toArray .none nonV (fun s' => ∃ H', Inv X pins σ H' s' ∧ J H') (fun s' ⟨H', I', hJ⟩ => ?_) (fun i hi s' ⟨H', I', hJ⟩ => ?_) (fun s' ⟨H', I', hJ⟩ => ?_) ⟨H, I, j0⟩
  · obtain ⟨us, rv', ⟨⟨c0, d0, t0, sl⟩, k, g, hc, hd, ht⟩, _⟩ := I'.list (jl H' hJ)
    simp only at hc hd ht
    subst hc ht
    have e : us = its := same_nr rv rv' sh
    subst e
    exact ⟨k, d0, sl, g⟩
  · have hi2 : i < its.length := by simpa using hi
    have hi3 : i < xs.length := by rw [rv.length]; exact hi2
    obtain ⟨u, hu, ru⟩ := rv.get (List.getElem?_eq_getElem hi3)
    have eu : its.toArray[i] = u := by
      rw [List.getElem?_eq_getElem hi2] at hu
      simpa using hu
    rw [eu]
    rcases ji xs[i] (List.getElem_mem hi3) with ez | ⟨a, ez, hj⟩
    · rw [ez] at ru
      cases (show u = Value.none from ru)
      exact SeqAt.EqAt.same (A := X.A.in1) (s := s') .none X.prog X.w X.xe _ ⟨rfl, H', I', hJ⟩
    · rw [ez] at ru
      cases (show u = Value.ref a from ru)
      obtain ⟨⟨dx, fs, ha⟩, hsp⟩ := hj H' hJ
      obtain ⟨mA, Ji, _⟩ := ins_get I'.hok ha
      obtain ⟨od, Ji, _⟩ := Ji.look
      obtain ⟨m, hF⟩ := I'.fr
      have hrA : Room n X.A.in1 := hr.in1
      unfold eqBool
      refine wpAny_holding (wpAny_ite_split (fun hab => by cases hab) fun _ => ?_)
      refine wpAny_bind (m := richCompare .Eq (.ref a) .none) (PySem.W.cmp_K (op := .Eq) (tb := .type "NoneType") hrA.units0 hF I'.ok.mod.kin Ji (looks_none _ _) nf hs hf ?_)
      have e0 : Env0 X.prog X.w X.K X.mg X.base X.A.in1 X.stack s' H' := by
        have e := I'.env0
        exact ⟨e.frames, e.mod, e.bs, e.bsz, e.funs, e.frf, e.hok, e.bare⟩
      have len := F.len _ _ _ _ hsp
      have rv2 : Vals [V.ref a, V.non] [Value.ref a, Value.none] := .cons rfl (.cons rfl .nil)
      refine wpAny_call (codeAny_mono (F.run X.A.in1 X.stack s' H' ⟨[.ref a, .none], []⟩ [.ref a, .none] [.ref a, .non] _ E hrA e0 (by
        have z := hb s' [.ref a, .none] I'.kIn (by simpa using len)
        simpa using z) rv2 hsp) fun r s2 hq => ?_)
      cases r with
      | error er => exact hx pins σ H' s' er s2 I' hq
      | ok fl =>
        cases fl with
        | ret w =>
          obtain ⟨z, H2, I2, rz, ez, hJ2⟩ := I'.after hq
          subst ez
          cases (show w = Value.bool false from rz)
          exact wpAny_truthy_bool ⟨rfl, H2, I2, hJ2⟩
        | next => exact False.elim hq
        | brk => exact False.elim hq
        | cont => exact False.elim hq
  · rw [show its.toArray.any nonV = its.any nonV by simp, any_nonV rv sh]
    exact ⟨.bl _, H', I', rfl, jq H' hJ⟩
end K3
set_option Elab.async false
set_option linter.all false
set_option maxRecDepth 100000
set_option maxHeartbeats 1600000
/-! KP: dicts by texts, what the module has written, isinstance, texts walked, try that runs through, None in. -/
namespace K3
open PySem PySem.Spec PyProof.Rows L2

/-! ### dicts keyed by texts -/
def lookN (kvs : List (Str × D)) (k : Str) : Option D := (kvs.find? fun kv => decide (kv.1 = k)).map (·.2)
def putN (kvs : List (Str × D)) (k : Str) (d : D) : List (Str × D) := if (kvs.any fun kv => decide (kv.1 = k)) then kvs.map (fun kv => if kv.1 = k then (kv.1, d) else kv) else kvs ++ [(k, d)]
def mergeN (kvs more : List (Str × D)) : List (Str × D) := more.foldl (fun acc kv => putN acc kv.1 kv.2) kvs
section
variable {B : Bd} {F : Hp}
theorem inr_dec (a b : Str) : decide ((Sum.inr a : Key) = Sum.inr b) = decide (a = b) := by
  by_cases h : a = b
  · subst h; simp
  · rw [decide_eq_false h, decide_eq_false fun z => h (Sum.inr.inj z)]
theorem repn_look : ∀ {ws : List (Key × V)} {kvs : List (Str × D)} (k : Str), Repn B F ws kvs → (valV ws (.inr k) = none ∧ lookN kvs k = none) ∨ ∃ v d, valV ws (.inr k) = some v ∧ lookN kvs k = some d ∧ Rep B F v d
  | _, _, _, .nil => .inl ⟨rfl, rfl⟩
  | _, (x, d) :: kvs, k, @Repn.cons _ _ _ v _ ws _ h t => by
    by_cases e : x = k
    · subst e
      exact .inr ⟨v, d, by simp [valV], by simp [lookN], h⟩
    · have e2 : ¬ ((Sum.inr x : Key) = Sum.inr k) := fun z => e (Sum.inr.inj z)
      rcases repn_look k t with ⟨h1, h2⟩ | ⟨v', d', h1, h2, h3⟩
      · exact .inl ⟨by simpa [valV, e2, e] using h1, by simpa [lookN, e] using h2⟩
      · exact .inr ⟨v', d', by simpa [valV, e2, e] using h1, by simpa [lookN, e] using h2, h3⟩
theorem repn_any (k : Str) : ∀ {ws : List (Key × V)} {kvs : List (Str × D)}, Repn B F ws kvs → (ws.any fun kv => decide (kv.1 = Sum.inr k)) = kvs.any fun kv => decide (kv.1 = k)
  | _, _, .nil => rfl
  | _, (x, d) :: kvs, @Repn.cons _ _ _ v _ ws _ h t => by
    rw [List.any_cons, List.any_cons, repn_any k t]
    show (decide ((Sum.inr x : Key) = Sum.inr k) || _) = _
    rw [inr_dec]
theorem repn_app : ∀ {ws us : List (Key × V)} {kvs kws : List (Str × D)}, Repn B F ws kvs → Repn B F us kws → Repn B F (ws ++ us) (kvs ++ kws)
  | _, _, _, _, .nil, s => s
  | _, _, _, _, .cons h t, s => .cons h (repn_app t s)
theorem repn_repl (k : Str) {v : V} {d : D} (rd : Rep B F v d) : ∀ {ws : List (Key × V)} {kvs : List (Str × D)}, Repn B F ws kvs → Repn B F (ws.map fun kv => if kv.1 = Sum.inr k then (kv.1, v) else kv) (kvs.map fun kv => if kv.1 = k then (kv.1, d) else kv)
  | _, _, .nil => .nil
  | _, (x, d') :: kvs, @Repn.cons _ _ _ v' _ ws _ h t => by
    have ih := repn_repl k rd t
    rw [List.map_cons, List.map_cons]
    by_cases e : x = k
    · subst e
      rw [if_pos rfl, if_pos rfl]
      exact .cons rd ih
    · rw [if_neg e, if_neg fun z => e (Sum.inr.inj z)]
      exact .cons h ih
theorem repn_put (k : Str) {v : V} {d : D} {ws : List (Key × V)} {kvs : List (Str × D)} (r : Repn B F ws kvs) (rd : Rep B F v d) : Repn B F (putK ws (.inr k) v) (putN kvs k d) := by
  unfold putK putN
  rw [repn_any k r]
  split
  · exact repn_repl k rd r
  · exact repn_app r (.cons rd .nil)
theorem repn_merge : ∀ {us : List (Key × V)} {kws : List (Str × D)} {ws : List (Key × V)} {kvs : List (Str × D)}, Repn B F us kws → Repn B F ws kvs → Repn B F (mergeK ws us) (mergeN kvs kws)
  | _, _, _, _, .nil, r => r
  | _, _, _, _, @Repn.cons _ _ x _ _ _ _ h t, r => by
    have z := repn_merge t (repn_put x r h)
    exact z
theorem repn_len : ∀ {ws : List (Key × V)} {kvs : List (Str × D)}, Repn B F ws kvs → ws.length = kvs.length
  | _, _, .nil => rfl
  | _, _, .cons _ t => by rw [List.length_cons, List.length_cons, repn_len t]
end
/-- the pairs of a display -/
def dPairs : List (DE × DE) → Rho → Mu → (List (Str × D) → Mu → Prop) → Prop
  | [], _, μ, Φ => Φ [] μ
  | (dk, dv) :: r, ρ, μ, Φ => dk ρ μ fun x μ1 => dv ρ μ1 fun y μ2 => match x with | .v (.str k) => dPairs r ρ μ2 fun ps μ3 => Φ ((k, y) :: ps) μ3 | _ => False
theorem pairs_sim {B : Bd} : ∀ (ps : List (DE × DE)) {Z : Zc} {F H : Hp} {σ : L2.St} {ρ : Rho} {μ : Mu} {Φ : List (Str × D) → Mu → Prop} {Q : List (V × V) → Hp → Prop}, WS B Z F H σ ρ μ → dPairs ps ρ μ Φ →
    (∀ ws kvs μ' F' H', Same F F' → WS B Z F' H' σ ρ μ' → Repn B F' ws kvs → Φ kvs μ' → Q (ws.map fun kv => (kV kv.1, kv.2)) H') → tPairs (ps.map fun p => (cE B p.1, cE B p.2)) σ H Q
  | [], _, _, _, _, _, _, _, _, w, h, k => k [] [] _ _ _ (Same.refl _) w .nil h
  | (dk, dv) :: r, Z, F, H, σ, ρ, μ, Φ, Q, w, h, k => by
    refine ⟨Z, F, ρ, μ, _, w, h, fun x dx μ1 F1 H1 s1 w1 r1 h1 => ?_⟩
    refine ⟨Z, F1, ρ, μ1, _, w1, h1, fun y dy μ2 F2 H2 s2 w2 r2 h2 => ?_⟩
    split at h2
    · rename_i z
      cases r1
      refine pairs_sim r w2 h2 fun ws kvs μ' F' H' s3 w3 r3 h3 => ?_
      exact k ((.inr z, y) :: ws) _ μ' F' H' (s1.trans (s2.trans s3)) w3 (.cons (r2.mono s3) r3) h3
    · exact h2.elim
section
variable {X : Cx} {pos : Pos} {keys : List (Option Expr)} {values : List Expr} {ps : List (DE × DE)}
abbrev QPs (X : Cx) (pos : Pos) (keys : List (Option Expr)) (values : List Expr) (ps : List (DE × DE)) : Prop := PPs X pos keys values (ps.map fun p => (cE (Bof X) p.1, cE (Bof X) p.2))
theorem ps_nil : QPs X pos [] [] [] := pps_nil
theorem ps_cons {k v : Expr} {dk dv : DE} (hk : QE X k dk) (hv : QE X v dv) (hr : QPs X pos keys values ps) : QPs X pos (some k :: keys) (v :: values) ((dk, dv) :: ps) := pps_cons hk hv hr
def dDispM (ps : List (DE × DE)) : DE := fun ρ μ Φ => ∀ p, μ p = none → dPairs ps ρ (mup μ p (.dks [])) fun kvs μ1 => kvs.length ≤ 15 ∧ μ1 p = some (.dks []) ∧ Φ (dR p) (mup μ1 p (.dks (mergeN [] kvs)))
theorem q_dispM (h : QPs X pos keys values ps) (hall : keys.all (·.isSome) = true := by rfl) (hl : keys.length = values.length := by rfl) (h0 : keys ≠ [] := by exact fun z => nomatch z) (h15 : keys.length ≤ 15 := by decide) : QE X (.Dict keys values pos) (dDispM ps) := by
  refine pe_imp (pe_disp h hall hl h0 h15) ?_
  rintro σ H Q ⟨Z, F, ρ, μ, Φ, w, h, k⟩ p hp
  have w0 : WS (Bof X) Z F (upd H p (.dK [])) σ ρ (mup μ p (.dks [])) := w.newM (m := .dks []) hp ⟨[], upd_same, .nil⟩
  refine pairs_sim ps w0 (h p (w.freshM hp)) fun ws kvs μ' F' H' s' w' r' h' => ?_
  obtain ⟨l, em, h'⟩ := h'
  obtain ⟨_, _, us, hu, ru⟩ := w'.muts _ _ em
  cases ru
  refine ⟨hu, ws, rfl, by rw [repn_len r']; exact l, ?_⟩
  exact k _ _ _ F' _ s' (w'.mut (m' := .dks (mergeN [] kvs)) em ⟨_, upd_same, repn_merge r' .nil⟩) (.v _) h'
end
def rdDks (d : D) (μ : Mu) (Ψ : List (Str × D) → Prop) : Prop := match d with
  | .dks kvs => Ψ kvs
  | .v (.ref a) => ∃ kvs, μ a = some (.dks kvs) ∧ Ψ kvs
  | _ => False
theorem rdDks_ok {B : Bd} {Z : Zc} {F H : Hp} {σ : L2.St} {ρ : Rho} {μ : Mu} {v : V} {d : D} {Ψ : List (Str × D) → Prop} (w : WS B Z F H σ ρ μ) (r : Rep B F v d) (h : rdDks d μ Ψ) : ∃ a ws kvs, v = .ref a ∧ H a = some (.dK ws) ∧ Repn B F ws kvs ∧ Ψ kvs := by
  unfold rdDks at h
  split at h
  · cases r with
    | dks q t => exact ⟨_, _, _, rfl, w.sub _ _ q, t, h⟩
  · cases r
    obtain ⟨kvs, e, h⟩ := h
    obtain ⟨_, _, ws, q, t⟩ := w.muts _ _ e
    exact ⟨_, ws, kvs, rfl, q, t, h⟩
  · exact h.elim
section
variable {X : Cx} {o i e : Expr} {de di : DE} {da : DA} {pos apos cpos : Pos}
/-- d['..'] -/
def fNGet : DR2 := fun x y μ Φ => match y with | .v (.str k) => rdDks x μ fun kvs => (match lookN kvs k with | some d => Φ d μ | none => False) | _ => False
theorem q_nGet (hu : X.A.units + 1 < cLine) (ho : QE X o de) (hi : QE X i di) (hs : NoSl i := by exact fun _ _ => rfl) : QE X (.Subscript o i pos) (dOp fNGet de di) := by
  refine pe_imp (pe_dget hu ho hi hs) ?_
  rintro σ H Q ⟨Z, F, ρ, μ, Φ, w, h, k⟩
  refine ⟨Z, F, ρ, μ, _, w, h, fun x dx μ1 F1 H1 s1 w1 r1 h1 => ?_⟩
  refine ⟨Z, F1, ρ, μ1, _, w1, h1, fun y dy μ2 F2 H2 s2 w2 r2 h2 => ?_⟩
  unfold fNGet at h2
  split at h2
  · rename_i kk
    cases r2
    obtain ⟨a, ws, kvs, rfl, hH, t, h2⟩ := rdDks_ok w2 (r1.mono s2) h2
    rcases repn_look kk t with ⟨z1, z2⟩ | ⟨v, d, z1, z2, rd⟩
    · rw [z2] at h2; exact h2.elim
    · rw [z2] at h2
      exact ⟨a, v, rfl, .inl ⟨ws, .inr kk, .inl hH, rfl, z1.symm⟩, k v d μ2 F2 H2 (s1.trans s2) w2 rd h2⟩
  · exact h2.elim
/-- d.update(e), both may change -/
def rUpd : V → List V → Hp → VK → Prop := fun x us H Q => ∃ a b ws vs, x = .ref a ∧ us = [.ref b] ∧ a ≠ b ∧ H a = some (.dK ws) ∧ H b = some (.dK vs) ∧ ws.length + vs.length ≤ sizeLine ∧ Q .non (upd H a (.dK (mergeK ws vs)))
theorem mergeK_len : ∀ (us ws : List (Key × V)), (mergeK ws us).length ≤ ws.length + us.length := fun us ws => length_mergeK us ws
theorem mt_upd : MtR X "dict.update" rUpd := by
  intro pins s σ H x us v qs Q I rx rs ⟨a, b, ws, vs, ex, ea, ne, hA, hB, hz, q⟩
  subst ex ea
  cases rx
  obtain ⟨u1, rfl, r1⟩ := rs.one
  cases r1
  obtain ⟨_, la, vs1, k1, d1⟩ := dk_of I.hok hA
  obtain ⟨_, lb, vs2, k2, d2⟩ := dk_of I.hok hB
  refine call_meetsIn PySem.F.slot_dict_update d1.typeIs PySem.F.entry_dict_update (PySem.F.args_dict_update_2 _ _) (meets_dict_update (mixKind X.prog X.w) a b ne lb)
    ⟨vs1, vs2, d1, d2, by rw [← k1.length, ← k2.length]; exact hz, fun h' m1 m2 sb => ?_⟩
  have he : ∃ q, h'.get? a = some q := let ⟨q, _, _, hq, _⟩ := m1; ⟨q, hq⟩
  exact ⟨.non, _, d_write (t' := s.toks) I (by rw [hA]; exact True.intro) sb he (dk_new (Nat.le_trans (mergeK_len vs ws) hz) la (k2.merge k1) m1), rfl, q⟩
def dUpd (de : DE) (da : DA) : DE := fun ρ μ Φ => de ρ μ fun x μ1 => match x with
  | .v (.ref a) => (∃ kvs, μ1 a = some (.dks kvs)) ∧ da ρ μ1 fun ys μ2 => (match ys with
    | [.v (.ref b)] => a ≠ b ∧ ∃ kvs kws, μ2 a = some (.dks kvs) ∧ μ2 b = some (.dks kws) ∧ lenOk (kvs.length + kws.length) (Φ dN (mup μ2 a (.dks (mergeN kvs kws))))
    | _ => False)
  | _ => False
theorem q_upd (ho : QE X o de) (ha : QA X [e] da) (hbase : attributeBase o "update" X.env (eval o X.env) = eval o X.env := by rfl)
    (hfew : ((backTo cpos (starEach [e] X.env)).all (fun x => !x.1) && (backToKw cpos (keywordEach [] X.env)).all (fun x => x.1.isSome)
      && decide ([e].length + ([] : List Keyword).length + (if ([] : List Keyword).isEmpty then 0 else 1) < 30)) = true := by rfl)
    (hline : (apos.endLine == cpos.line) = true := by rfl) (hs : starEach [e] X.env = (false, eval e X.env) :: starEach [] X.env := by rfl) (hplain : (backTo cpos (starEach [] X.env)).any (·.1) = false := by rfl) :
    QE X (.Call (.Attribute o "update" apos) [e] [] cpos) (dUpd de da) := by
  refine pe_imp (pe_bm PySem.F.plainAttrs_dict PySem.F.slot_dict_update PySem.F.type_dict_update mt_upd ho ha hbase hfew hline hs hplain) ?_
  rintro σ H Q ⟨Z, F, ρ, μ, Φ, w, h, k⟩
  refine ⟨Z, F, ρ, μ, _, w, h, fun v d μ1 F1 H1 s1 w1 r1 h1 => ?_⟩
  split at h1
  · rename_i a
    cases r1
    obtain ⟨⟨kvs0, e0⟩, h1⟩ := h1
    obtain ⟨_, _, w0, q0, _⟩ := w1.muts _ _ e0
    refine ⟨.inr (.inr (.inl ⟨rfl, .inl ⟨w0, q0⟩⟩)), Z, F1, ρ, μ1, _, w1, h1, fun us ds μ2 F2 H2 s2 w2 r2 h2 => ?_⟩
    split at h2
    · rename_i b
      cases r2 with
      | cons ra rt =>
        cases rt; cases ra
        obtain ⟨ne, kvs, kws, e1, e2, h2⟩ := h2
        obtain ⟨z, _, h2⟩ := h2.elim
        obtain ⟨_, _, ws, q1, t1⟩ := w2.muts _ _ e1
        obtain ⟨_, _, vs, q2, t2⟩ := w2.muts _ _ e2
        refine ⟨a, b, ws, vs, rfl, rfl, ne, q1, q2, by rw [repn_len t1, repn_len t2]; exact z, ?_⟩
        exact k _ _ _ F2 _ (s1.trans s2) (w2.mut (m' := .dks (mergeN kvs kws)) e1 ⟨_, upd_same, repn_merge t2 t1⟩) (.v _) h2
    · exact h2.elim
  · exact h1.elim

/-! ### what the module has written: a dict of tuples of texts -/
structure KtOk (K : PySem.W.Frag) (a : Addr) (ts : List Str) : Prop where
  sq : ∀ H, SqT K H a (ts.map V.str)
  ob : ∃ ob, K.lookup a = some ob ∧ ob.cls = .type "tuple" ∧ ob.dict = none
/-- such a tuple, read -/
def dKt (kt : Addr → Option (List Str)) (de : DE) : DE := fun ρ μ Φ => de ρ μ fun x μ1 => match x with | .v (.ref a) => (match kt a with | some ts => Φ (.tup (ts.map dS)) μ1 | none => False) | _ => False
theorem q_kt {kt : Addr → Option (List Str)} (hk : ∀ a ts, kt a = some ts → KtOk X.K a ts) (he : QE X e de) : QE X e (dKt kt de) := by
  refine pe_imp he ?_
  rintro σ H Q ⟨Z, F, ρ, μ, Φ, w, h, k⟩
  refine ⟨Z, F, ρ, μ, _, w, h, fun v d μ1 F1 H1 s1 w1 r1 h1 => ?_⟩
  split at h1
  · cases r1
    split at h1
    · rename_i ts ek
      refine k _ _ μ1 F1 H1 s1 w1 (.tup ((hk _ _ ek).sq F1) ?_) h1
      rw [mapS]; exact Reps.of_scal _
    · exact h1.elim
  · exact h1.elim
/-- t.index(z), the first place -/
def dTIdx (kt : Addr → Option (List Str)) (de : DE) (da : DA) : DE := fun ρ μ Φ => de ρ μ fun x μ1 => match x with
  | .v (.ref a) => (match kt a with | some ts => da ρ μ1 fun ys μ2 => (match ys with | [.v (.str z)] => ∃ j, ts[j]? = some z ∧ (∀ m, m < j → ts[m]? ≠ some z) ∧ Φ (dI (j : Nat)) μ2 | _ => False) | none => False)
  | _ => False
theorem q_tIdx {kt : Addr → Option (List Str)} (hk : ∀ a ts, kt a = some ts → KtOk X.K a ts) (ho : QE X o de) (ha : QA X [e] da) (hbase : attributeBase o "index" X.env (eval o X.env) = eval o X.env := by rfl)
    (hfew : ((backTo cpos (starEach [e] X.env)).all (fun x => !x.1) && (backToKw cpos (keywordEach [] X.env)).all (fun x => x.1.isSome)
      && decide ([e].length + ([] : List Keyword).length + (if ([] : List Keyword).isEmpty then 0 else 1) < 30)) = true := by rfl)
    (hline : (apos.endLine == cpos.line) = true := by rfl) (hs : starEach [e] X.env = (false, eval e X.env) :: starEach [] X.env := by rfl) (hplain : (backTo cpos (starEach [] X.env)).any (·.1) = false := by rfl)
    (pa : PlainAttrs "tuple") (ty : typeOf (.builtin "tuple.index") = pure (.type "method_descriptor")) : QE X (.Call (.Attribute o "index" apos) [e] [] cpos) (dTIdx kt de da) := by
  refine pe_imp (pe_bm pa PySem.F.slot_tuple_index ty mt_tup_index ho ha hbase hfew hline hs hplain) ?_
  rintro σ H Q ⟨Z, F, ρ, μ, Φ, w, h, k⟩
  refine ⟨Z, F, ρ, μ, _, w, h, fun v d μ1 F1 H1 s1 w1 r1 h1 => ?_⟩
  split at h1
  · rename_i a
    cases r1
    split at h1
    · rename_i ts ek
      obtain ⟨ob, o1, o2, o3⟩ := (hk _ _ ek).ob
      refine ⟨.inr (.inl ⟨rfl, ob, o1, o2, o3⟩), Z, F1, ρ, μ1, _, w1, h1, fun us ds μ2 F2 H2 s2 w2 r2 h2 => ?_⟩
      split at h2
      · rename_i z
        cases r2 with
        | cons ra rt =>
          cases rt; cases ra
          obtain ⟨j, e1, e2, h2⟩ := h2
          exact ⟨a, ts, z, j, rfl, rfl, (hk _ _ ek).sq H2, e1, e2, k _ _ μ2 F2 H2 (s1.trans s2) w2 (.v _) h2⟩
      · exact h2.elim
    · exact h1.elim
  · exact h1.elim
/-- D['..'] of a written dict at p -/
def fKGet (p : Addr) (kd : Str → Option Addr) : DR2 := fun x y μ Φ => x = dR p ∧ match y with | .v (.str z) => (match kd z with | some a => Φ (dR a) μ | none => False) | _ => False
theorem sim_kGet {p : Addr} {kd : Str → Option Addr} (hk : ∀ z a, kd z = some a → KDct X.K X.w p z (.ref a)) : SimR2 (Bof X) (rIxD X.K X.w) (fKGet p kd) := by
  intro Z F H σ ρ μ Φ x y dx dy Q w rx ry ⟨e, h⟩ k
  subst e
  cases rx
  split at h
  · rename_i z
    cases ry
    split at h
    · rename_i a ek
      exact ⟨p, z, .ref a, rfl, rfl, hk _ _ ek, k _ _ μ F H (Same.refl F) w (.v _) h⟩
    · exact h.elim
  · exact h.elim
theorem q_kGet {p : Addr} {kd : Str → Option Addr} (hk : ∀ z a, kd z = some a → KDct X.K X.w p z (.ref a)) (ha : QE X o de) (hb : QE X i di) (hs : PlainIx i := by exact fun _ _ => rfl) : QE X (.Subscript o i pos) (dOp (fKGet p kd) de di) := pe_imp (pe_ix ix_kdict ha hb hs) (sim_op (sim_kGet hk))
end
end K3
set_option Elab.async false
set_option linter.all false
set_option maxRecDepth 100000
set_option maxHeartbeats 1600000
/-! KQ: isinstance, texts walked, None in, repr, try that runs through. -/
namespace K3
open PySem PySem.Spec PyProof.Rows L2

/-! ### isinstance -/
def tyD : D → Option String
  | .v .non => some "NoneType"
  | .v (.bl _) => some "bool"
  | .v (.int _) => some "int"
  | .v (.str _) => some "str"
  | .lst _ => some "list"
  | .tup _ => some "tuple"
  | _ => none
theorem tyX_of {B : Bd} {F H : Hp} (s : Same F H) {v : V} {d : D} {t : String} (r : Rep B F v d) (h : tyD d = some t) : TyX B.K H v (.type t) := by
  cases r with
  | v x =>
    cases v <;> first | cases h | skip
    · exact .base .non
    · exact .base (.bl _)
    · exact .base (.int _)
    · exact .base (.str _)
  | lst q t =>
    cases h
    rcases sql_mono s q with (q | ⟨o, q⟩) | ⟨o, its, n, q, c, _⟩
    · exact .base (.lst q)
    · exact .base (.frz q)
    · exact .kList q c
  | tup q t =>
    cases h
    rcases sqt_mono s q with (q | ⟨o, q⟩) | ⟨o, its, n, q, c, _⟩
    · exact .base (.tup q)
    · exact .fTuple q
    · exact .kTuple q c
  | dct _ _ _ => cases h
  | dks _ _ => cases h
  | ob _ _ _ _ => cases h
/-- isinstance(x, T), T a built-in type -/
def fIsi : D → D → Mu → DK → Prop := fun x y μ Φ => match y with | .v (.ty n) => ∃ t b, tyD x = some t ∧ kitB t n = some b ∧ Φ (dB b) μ | _ => False
section
variable {X : Cx}
theorem sim_isi : SimRL (Bof X) (rIsi X.K) (dr2 fIsi) := sim_dr2 fun Z F H σ ρ μ Φ v u d e Q w r r2 h k => by
  unfold fIsi at h
  split at h
  · rename_i n
    cases r2
    obtain ⟨t, b, e1, e2, h⟩ := h
    exact ⟨v, .ty n, .type t, .type n, b, rfl, .ty n, tyX_of w.sub r e1, kit_ty e2, k _ _ μ F H (Same.refl F) w (.v _) h⟩
  · exact h.elim
/-- isinstance(x, C): None is none; an instance of C is one -/
def fIsO (C : Addr) : D → D → Mu → DK → Prop := fun x y μ Φ => y = dR C ∧ match x with | .v .non => Φ (dB false) μ | .ob C' _ _ => C' = C ∧ Φ (dB true) μ | _ => False
theorem sim_isO (C : Addr) (c : C8.InsC X.K C) (kn : PySem.W.kitOne X.K (.type "NoneType") (.ref C) = some false) : SimRL (Bof X) (rIsi X.K) (dr2 (fIsO C)) := sim_dr2 fun Z F H σ ρ μ Φ v u d e Q w r r2 h k => by
  obtain ⟨ey, h⟩ := h
  subst ey
  cases r2
  split at h
  · cases r
    exact ⟨.non, .ref C, .type "NoneType", .ref C, false, rfl, .own C, .base .non, kn, k _ _ μ F H (Same.refl F) w (.v _) h⟩
  · obtain ⟨rfl, h⟩ := h
    cases r with
    | @ob a _ dx _ _ _ q n l t =>
      exact ⟨.ref a, .ref _, .ref _, .ref _, true, rfl, .own _, .base (.ins (w.sub _ _ q) c.cl c.ha c.hn c.htk c.hm), c.me, k _ _ μ F H (Same.refl F) w (.v _) h⟩
  · exact h.elim
variable {e : Expr} {de : DE} {p p1 p2 q pos : Pos} {k2 : Nat}
/-- isinstance(x, (list, tuple)) of a list or a tuple -/
def dIsLT (de : DE) : DE := fun ρ μ Φ => de ρ μ fun x μ1 => match x with | .lst _ => Φ (dB true) μ1 | .tup _ => Φ (dB true) μ1 | _ => False
theorem q_isLT (hg : Gl X "isinstance") (hm : X.mg "isinstance" = none) (hg1 : Gl X "list") (hm1 : X.mg "list" = none) (hg2 : Gl X "tuple") (hm2 : X.mg "tuple" = none) (he : QE X e de)
    (a1 : starEach [e, .Tuple [.Name "list" p1, .Name "tuple" p2] k2 q] X.env = (false, eval e X.env) :: starEach [.Tuple [.Name "list" p1, .Name "tuple" p2] k2 q] X.env := by rfl)
    (a2 : starEach [.Tuple [.Name "list" p1, .Name "tuple" p2] k2 q] X.env = (false, eval (.Tuple [.Name "list" p1, .Name "tuple" p2] k2 q) X.env) :: starEach [] X.env := by rfl) :
    QE X (.Call (.Name "isinstance" p) [e, .Tuple [.Name "list" p1, .Name "tuple" p2] k2 q] [] pos) (dIsLT de) := by
  refine pe_imp (pe_callB call_isiT hg hm (by decide +kernel) (pa_cons he (pa_cons (pe_tup (pa_cons (pe_bltn (v := .ty "list") hg1 hm1 (by decide +kernel) rfl) (pa_cons (pe_bltn (v := .ty "tuple") hg2 hm2 (by decide +kernel) rfl) pa_nil))) pa_nil a2) a1) (he := a1)) ?_
  rintro σ H Q ⟨Z, F, ρ, μ, Φ, w, h, k⟩
  refine ⟨Z, F, ρ, μ, _, w, h, fun v d μ1 F1 H1 s1 w1 r1 h1 => ?_⟩
  have go : ∀ t, tyD d = some t → (PySem.W.kitAny X.K (.type t) [.type "list", .type "tuple"] = some true) → Φ (dB true) μ1 → ∀ T, H1 T = none → rIsiT X.K [v, .ref T] (upd H1 T (.tup [.ty "list", .ty "tuple"])) Q := fun t et ek hf T hT => by
    have w2 := w1.newG (o := .tup [.ty "list", .ty "tuple"]) hT
    exact ⟨v, T, [.ty "list", .ty "tuple"], .type t, [.type "list", .type "tuple"], true, rfl, upd_same, .cons (.ty _) (.cons (.ty _) .nil), tyX_of w2.sub r1 et, ek, k _ _ μ1 F1 _ s1 w2 (.v _) hf⟩
  have g2 : ∀ t, tyD d = some t → (PySem.W.kitAny X.K (.type t) [.type "list", .type "tuple"] = some true) → Φ (dB true) μ1 → (2 ≤ sizeLine ∧ ∀ T, H1 T = none → rIsiT X.K [v, .ref T] (upd H1 T (.tup [.ty "list", .ty "tuple"])) Q) := fun t et ek hf => ⟨show 2 ≤ sizeLine by decide, go t et ek hf⟩
  split at h1
  · exact g2 "list" rfl (kitAny_cons (b := true) (kit_ty (by decide +kernel)) (fun z => by cases z) fun _ => rfl) h1
  · exact g2 "tuple" rfl (kitAny_cons (b := false) (kit_ty (by decide +kernel)) (fun _ => kitAny_cons (b := true) (kit_ty (by decide +kernel)) (fun z => by cases z) fun _ => rfl) fun z => by cases z) h1
  · exact h1.elim
/-! ### repr(None) -/
def fReprN : D → Mu → DK → Prop := fun x μ Φ => match x with | .v .non => Φ (dS "None") μ | _ => False
theorem call_repr_none : CallR X (.builtin "repr") (fun xs H Q => xs = [.non] ∧ Q (.str "None") H) := by
  intro pins s σ H xs us Q I r ⟨e, q⟩
  subst e
  obtain ⟨u, rfl, rx⟩ := r.one
  cases (show u = Value.none from rx)
  exact PySem.P.repr_of_none ⟨.str "None", H, I.tok _, ⟨_, rfl⟩, q⟩
theorem sim_reprN : SimRL (Bof X) (fun xs H Q => xs = [.non] ∧ Q (.str "None") H) (dr1 fReprN) := sim_dr1 fun Z F H σ ρ μ Φ v d Q w r h k => by
  unfold fReprN at h
  split at h
  · cases r; exact ⟨rfl, k _ _ μ F H (Same.refl F) w (.v _) h⟩
  · exact h.elim
/-! ### a text, sign by sign -/
def diS (de : DE) : DI := fun ρ μ Ψ => de ρ μ fun x μ1 => match x with | .v (.str z) => Ψ (z.cps.toList.map fun c => dS ⟨#[c]⟩) μ1 | _ => False
theorem i_str {tg : Expr} (he : QE X e de) : QI X tg e (diS de) := by
  refine pi_imp (pi_str he) ?_
  rintro σ H R ⟨Z, F, ρ, μ, Ψ, w, h, k⟩
  refine ⟨Z, F, ρ, μ, _, w, h, fun v d μ1 F1 H1 s1 w1 r1 h1 => ?_⟩
  split at h1
  · rename_i z
    cases r1
    refine ⟨z, rfl, k _ _ μ1 F1 H1 s1 w1 (fun Z' => ?_) h1⟩
    intro F2 H2 σ2 ρ2 μ2 s w2 i
    have len : (z.cps.toList.map fun c => dS ⟨#[c]⟩).length = z.cps.size := by simp
    rw [len]
    refine ⟨fun hi => ⟨hi, fun x H3 y => ?_⟩, fun hi => Nat.le_of_eq hi.symm⟩
    obtain ⟨rfl, c, hc, rfl⟩ := y
    refine ⟨F2, _, Same.refl F2, w2, ?_, .v _, fun _ _ e => e⟩
    rw [List.getElem?_map, Array.getElem?_toList, hc] <;> rfl
  · exact h1.elim
/-! ### None in rows -/
def nonD : D → Bool | .v .non => true | _ => false
def EqO (P : Program) (w : World) (K : PySem.W.Frag) (mg : Str → Option Value) (base : Heap) (C : Addr) (n : Nat) : Prop := ∃ f fd ps, FnOk P w K mg base CX0 n f fd ps (spOf ⟨P, w, K⟩ fun xs μ Φ => ∃ L ds, xs = [.ob C L ds, dN] ∧ Φ (dB false) μ) ∧
  PySem.W.findIn K (.ref C) "__eq__" = some (some (.ref f)) ∧ PySem.W.isFn K (.ref f) = true ∧ Binds K fd ps [] ∧ PySem.W.notFirst K C (.type "NoneType") = true
def fNoneIn (C : Addr) : DR2 := fun x y μ Φ => x = dN ∧ match y with | .lst ds => (∀ d ∈ ds, d = dN ∨ ∃ L xs, d = .ob C L xs) ∧ Φ (dB (ds.any nonD)) μ | _ => False
theorem any_non_rep {B : Bd} {F : Hp} {C : Addr} : ∀ {vs : List V} {ds : List D}, Reps B F vs ds → (∀ d ∈ ds, d = dN ∨ ∃ L xs, d = .ob C L xs) → vs.any isNon = ds.any nonD
  | _, _, .nil, _ => rfl
  | _, d :: ds, .cons r t, h => by
    rw [List.any_cons, List.any_cons, any_non_rep t fun x m => h x (List.mem_cons_of_mem _ m)]
    rcases h d List.mem_cons_self with rfl | ⟨L, xs, rfl⟩
    · cases r; rfl
    · cases r; rfl
theorem sim_noneIn {C : Addr} : SimR2 (Bof X) (rNoneO X.K C (spOf (Bof X) fun xs μ Φ => ∃ L ds, xs = [.ob C L ds, dN] ∧ Φ (dB false) μ) E0) (fNoneIn C) := by
  intro Z F H σ ρ μ Φ x y dx dy Q w rx ry ⟨e, h⟩ k
  subst e
  cases rx
  split at h
  · rename_i ds
    obtain ⟨hd, h⟩ := h
    cases ry with
    | @lst a vs _ q t =>
      refine ⟨rfl, a, vs, rfl, sql_mono w.sub q, fun H' => ∃ F', Same F F' ∧ WS (Bof X) Z F' H' σ ρ μ, ⟨F, Same.refl F, w⟩, fun H' ⟨F', s', w'⟩ => sql_mono (s'.trans w'.sub) q, fun z hz => ?_, fun H' ⟨F', s', w'⟩ => ?_⟩
      · obtain ⟨i, hi⟩ := List.mem_iff_getElem?.mp hz
        obtain ⟨d, ed, rd⟩ := t.getV hi
        rcases hd d (List.mem_of_getElem? ed) with rfl | ⟨L, xs, rfl⟩
        · cases rd; exact .inl rfl
        · cases rd with
          | @ob b _ dx _ us _ qb n l tb =>
            refine .inr ⟨b, rfl, fun H' ⟨F', s', w'⟩ => ⟨⟨dx, L.zip us, w'.sub _ _ (s' _ _ qb)⟩, ?_⟩⟩
            exact spOf_at (E := E0) (Φ := fun d μ' => d = dB false ∧ μ' = μ) w' (.cons (Rep.mono s' (.ob qb n l tb)) (.cons (.v _) .nil)) ⟨L, xs, rfl, rfl, rfl⟩ fun v d μ2 F2 H2 s2 w2 r2 h2 => by
              obtain ⟨rfl, rfl⟩ := h2
              cases r2
              exact ⟨rfl, F2, s'.trans s2, w2⟩
      · rw [any_non_rep t hd]
        exact k _ _ μ F' H' s' w' (.v _) h
  · exact h.elim
theorem t_noneIn {a b : Expr} {da db : DE} {C : Addr} {n : Nat} (G : EqO X.prog X.w X.K X.mg X.base C n) (hr : Room (n + 1) X.A) (ha : QE X a da) (hb : QE X b db) (hm : behindInMarks .In b = false := by rfl) : QT X (.Compare a [.In] [b] pos) (dTest (dOp (fNoneIn C) da db)) := by
  obtain ⟨f, fd, ps, F, hs, hf, hbd, nf⟩ := G
  exact t_cmp (op_noneO (E := E0) F hr hs hf hbd nf pass0) sim_noneIn ha hb hm
end
/-! ### try that runs through -/
theorem s_try {X : Cx} {x : Str} {c : Value} {body suite : List Stmt} {b₀ : Stmt} {np pos pos' : Pos} {ds : DS} (hs : X.stack = X.env :: X.outer) (hf : X.env.frame = some X.env.locals) (hc : Names X x c)
    (hb : ∀ (pn : List (Addr × Obj)) (xe : Value → Shared → Prop), PassesOwn (model X.prog X.w) X.A X.env xe → QSs (X.tr pn xe) body ds) : QS X (.Try body [.ExceptHandler (some (.Name x np)) none (b₀ :: suite) pos'] [] [] pos) ds :=
  ps_try_only (Wout := fun _ _ _ _ => False) (tb := fun _ => cS (Bof X) ds) (ts := fun _ _ _ => tNever) hs hf hc takes0 (fun W pn xe tk ps => hb pn xe ps) fun a oe cls d pn _ _ => pss_never
end K3
set_option Elab.async false
set_option linter.all false
set_option maxRecDepth 100000
set_option maxHeartbeats 1600000
/-! KF: the text by places, what the walks ask of the module's names, a def by its facts. -/
namespace K3
open PySem PySem.Spec PyProof.Rows L2

theorem strs_vals : ∀ {vs : List Value} {ts : List Str}, strsOf vs = some ts → Vals (ts.map V.str) vs
  | [], ts, h => by cases h; exact .nil
  | v :: vs, ts, h => by
    cases v with
    | str x t =>
      unfold strsOf at h
      cases e : strsOf vs with
      | none => rw [e] at h; cases h
      | some us =>
        rw [e] at h
        cases h
        exact .cons ⟨t, rfl⟩ (strs_vals e)
    | _ => cases h
theorem kt_ok {K : PySem.W.Frag} {a : Addr} {ts : List Str} (h : kt K a = some ts) : KtOk K a ts := by
  unfold kt at h
  split at h
  · rename_i c its n sl e
    split at h
    · rename_i hc
      obtain ⟨rfl, hz⟩ := hc
      exact ⟨fun H => .inr ⟨_, its, n, e, rfl, rfl, hz, strs_vals h⟩, _, e, rfl, rfl⟩
    · cases h
  · cases h
def partsOf (z : Str) : Option (List Str) := if z = "home" then some ["under", "w", "past"] else if z = "low" then some ["under", "point", "between", "w", "past"] else if z = "here" then some ["under", "w", "past"] else if z = "high" then some ["under", "w", "between", "point", "past"] else none
/-- the addresses of PARTS's values -/
def kd (K : PySem.W.Frag) (z : Str) : Option Addr := (partsOf z).map fun _ => pa K z

/-! ### the names that the walks read -/
structure ClsF (K : PySem.W.Frag) (mg : Str → Option Value) (x : Str) (fs : List Str) : Prop where
  g : mg x = some (.ref (He.ga K x))
  cl : Cls K (He.ga K x)
  na : ∀ f ∈ fs, NoAttr K (He.ga K x) f
  mkr : Mk K (He.ga K x) (He.ma K (He.ga K x) "__init__")
structure TF (w : World) (K : PySem.W.Frag) (mg : Str → Option Value) : Prop where
  free : ∀ x ∈ (["len", "isinstance", "int", "bool", "str", "list", "tuple", "set", "sorted", "all", "any", "range", "enumerate", "zip", "max", "min", "abs", "repr", "dict"] : List Str), mg x = none
  me : ∃ t, mg "ME" = some (.str "w" t)
  letters : ∃ t, mg "LETTERS" = some (.str "abcdefghijklmnopqrstuvwxyz" t)
  most : ∃ t, mg "MOST_LETTERS" = some (.int 4 t)
  short : ∃ t, mg "SHORT" = some (.int 4 t)
  picks : mg "PICKS" = some (.ref (He.ga K "PICKS"))
  picksK : kt K (He.ga K "PICKS") = some (["keep", "at", "past", "under", "all"] : List Str)
  moves : mg "MOVES" = some (.ref (He.ga K "MOVES"))
  movesK : kt K (He.ga K "MOVES") = some (["stay", "on", "home"] : List Str)
  barred : mg "BARRED" = some (.ref (He.ga K "BARRED"))
  barredK : kt K (He.ga K "BARRED") = some (["also"] : List Str)
  parts : mg "PARTS" = some (.ref (He.ga K "PARTS"))
  partsD : ∀ z ts, partsOf z = some ts → KDct K w (He.ga K "PARTS") z (.ref (pa K z))
  partsT : ∀ z ts, partsOf z = some ts → kt K (pa K z) = some ts
  bad : mg "InvalidRow" = some (.ref (He.ga K "InvalidRow"))
  played : ClsF K mg "Played" ["grants", "done", "modes", "pointers", "faults"]
  beside : ClsF K mg "Beside" ["rule", "askers", "asker", "known"]
  wait : ClsF K mg "Wait" ["beside", "ways", "lengths"]
  row : ClsF K mg "Row" ["mode", "pick", "move", "then", "also"]
  rule : ClsF K mg "Rule" ["first", "rows", "modes"]
  rowI : C8.InsC K (He.ga K "Row")
  rowN : PySem.W.kitOne K (.type "NoneType") (.ref (He.ga K "Row")) = some false
  rowF : PySem.W.notFirst K (He.ga K "Row") (.type "NoneType") = true
theorem TF.kdOk {w : World} {K : PySem.W.Frag} {mg : Str → Option Value} (T : TF w K mg) : ∀ z a, kd K z = some a → KDct K w (He.ga K "PARTS") z (.ref a) := fun z a h => by
  unfold kd at h
  cases e : partsOf z with
  | none => rw [e] at h; cases h
  | some ts => rw [e] at h; cases h; exact T.partsD z ts e
section
variable {X : Cx} {x : Str} {pos : Pos}
theorem q_gS {z : Str} (hg : Gl X x) (h : ∃ t, X.mg x = some (.str z t)) (hd : (x == ("__debug__" : Str)) = false := by decide) : QE X (.Name x pos) (dC (dS z)) := by
  obtain ⟨t, e⟩ := h
  exact q_glob (v := .str z) hg e ⟨t, rfl⟩ hd
theorem q_gI {i : Int} (hg : Gl X x) (h : ∃ t, X.mg x = some (.int i t)) (hd : (x == ("__debug__" : Str)) = false := by decide) : QE X (.Name x pos) (dC (dI i)) := by
  obtain ⟨t, e⟩ := h
  exact q_glob (v := .int i) hg e ⟨t, rfl⟩ hd
theorem q_gR {a : Addr} (hg : Gl X x) (h : X.mg x = some (.ref a)) (hd : (x == ("__debug__" : Str)) = false := by decide) : QE X (.Name x pos) (dC (dR a)) := q_glob (v := .ref a) hg h rfl hd
/-- a built-in type as a value -/
theorem q_ty {n : String} (hg : Gl X x) (hm : X.mg x = none) (hv : bootBuiltins x = some (.type n)) (hn : x ≠ "__name__" := by decide) (hd : (x == ("__debug__" : Str)) = false := by decide) : QE X (.Name x pos) (dC (.v (.ty n))) := q_const (pe_bltn (v := .ty n) hg hm hv rfl hn hd)
end
/-! ### -n; list(range(n)) -/
def fNeg : DR1 := fun x μ Φ => match x with | .v (.int i) => Φ (dI (-i)) μ | _ => False
theorem sim_neg {B : Bd} : SimR1 B (rU fun i => .int (-i)) fNeg := by
  intro Z F H σ ρ μ Φ x dx Q w r h k
  unfold fNeg at h
  split at h
  · cases r; exact ⟨_, rfl, k _ _ μ F H (Same.refl F) w (.v _) h⟩
  · exact h.elim
section
variable {X : Cx} {e : Expr} {de : DE} {p p2 q pos : Pos}
theorem rgV_map {n : Int} : rgV 0 n = ((List.range n.toNat).map fun i => V.int (0 + (i : Nat))) := by
  unfold rgV; rw [Int.sub_zero]
theorem rgV_reps {B : Bd} {F : Hp} {n : Int} : Reps B F (rgV 0 n) (rngD 0 n.toNat) := by
  have e : rngD 0 n.toNat = ((List.range n.toNat).map fun i => V.int (0 + (i : Nat))).map D.v := by unfold rngD; rw [List.map_map] <;> rfl
  rw [e, rgV_map]
  exact Reps.of_scal _
def dLrng (de : DE) : DE := fun ρ μ Φ => de ρ μ fun x μ1 => match x with | .v (.int n) => (-(2 ^ 20) ≤ n ∧ n ≤ 2 ^ 20) ∧ Φ (.lst (rngD 0 n.toNat)) μ1 | _ => False
def dLrngM (de : DE) : DE := fun ρ μ Φ => de ρ μ fun x μ1 => match x with | .v (.int n) => (-(2 ^ 20) ≤ n ∧ n ≤ 2 ^ 20) ∧ ∀ p, μ1 p = none → Φ (dR p) (mup μ1 p (.lst (rngD 0 n.toNat))) | _ => False
theorem q_lrng (hg : Gl X "list") (hm : X.mg "list" = none) (hg2 : Gl X "range") (hm2 : X.mg "range" = none) (he : QE X e de) (hc : X.calm = true := by rfl) (na : starEach [e] X.env = (false, eval e X.env) :: starEach [] X.env := by rfl)
    (nb : starEach [.Call (.Name "range" p2) [e] [] q] X.env = (false, eval (.Call (.Name "range" p2) [e] [] q) X.env) :: starEach [] X.env := by rfl) : QE X (.Call (.Name "list" p) [.Call (.Name "range" p2) [e] [] q] [] pos) (dLrng de) := by
  refine pe_imp (pe_listRg hc hg hm (prg_1 hg2 hm2 he na) nb) ?_
  rintro σ H Q ⟨Z, F, ρ, μ, Φ, w, h, k⟩
  refine ⟨Z, F, ρ, μ, _, w, h, fun v d μ1 F1 H1 s1 w1 r1 h1 => ?_⟩
  split at h1
  · rename_i n
    cases r1
    obtain ⟨⟨b1, b2⟩, h1⟩ := h1
    refine ⟨n, rfl, ⟨by omega, by omega, by omega, by omega, by omega⟩, fun l hl => ?_⟩
    have s2 : Same F1 (upd F1 l (.lst (rgV 0 n))) := same_new (w1.freshF hl)
    exact k _ _ μ1 _ _ (s1.trans s2) (w1.newF hl) (.lst (SqL.of upd_same) rgV_reps) h1
  · exact h1.elim
theorem q_lrngM (hg : Gl X "list") (hm : X.mg "list" = none) (hg2 : Gl X "range") (hm2 : X.mg "range" = none) (he : QE X e de) (hc : X.calm = true := by rfl) (na : starEach [e] X.env = (false, eval e X.env) :: starEach [] X.env := by rfl)
    (nb : starEach [.Call (.Name "range" p2) [e] [] q] X.env = (false, eval (.Call (.Name "range" p2) [e] [] q) X.env) :: starEach [] X.env := by rfl) : QE X (.Call (.Name "list" p) [.Call (.Name "range" p2) [e] [] q] [] pos) (dLrngM de) := by
  refine pe_imp (pe_listRg hc hg hm (prg_1 hg2 hm2 he na) nb) ?_
  rintro σ H Q ⟨Z, F, ρ, μ, Φ, w, h, k⟩
  refine ⟨Z, F, ρ, μ, _, w, h, fun v d μ1 F1 H1 s1 w1 r1 h1 => ?_⟩
  split at h1
  · rename_i n
    cases r1
    obtain ⟨⟨b1, b2⟩, h1⟩ := h1
    refine ⟨n, rfl, ⟨by omega, by omega, by omega, by omega, by omega⟩, fun l hl => ?_⟩
    exact k _ _ _ F1 _ s1 (w1.newM (m := .lst (rngD 0 n.toNat)) hl ⟨_, upd_same, rgV_reps⟩) (.v _) (h1 l (w1.freshM hl))
  · exact h1.elim
end
/-! ### a def of the module, by what the head tells -/
abbrev FnP (K : PySem.W.Frag) (qual x : Str) (st : Stmt) (f : Addr) : Prop := ∃ fd, FunD K x qual (defArgs st) (defBody st) (defScope st) [] [] f fd
theorem fnG_of {P : Program} {w : World} {K : PySem.W.Frag} {mg : Str → Option Value} {base : Heap} {x : Str} {st : Stmt} {N ps : List Str} {k : Nat} {dsp : DSp} (F : FnP K x x st (He.ga K x)) (hm : mg x = some (.ref (He.ga K x))) (S : FnScope N ps (defScope st))
    (hbd : ∀ (kV doc pm : Value) (an : Option Addr) (cdv ct : Value) (us : List Value), us.length = ps.length → bindArgs (PySem.W.fnOf x x (defArgs st) (defBody st) (defScope st) .none kV doc pm an cdv ct) ⟨us, []⟩ = pure (ps.zip us))
    (len : ∀ ds μ Φ, dsp ds μ Φ → ds.length = ps.length)
    (hb : ∀ (f : Addr) (cdv : Value) (A : Around) (outer : List Env) (s : Shared) (H : Hp) (E : XK), Room k (A.deeper (envOfC x (defScope st) s.heap.objs.size f cdv)) →
      ∃ ds, QSs (cxOf CX0 P w K mg base N x (defScope st) f cdv A outer s H E).nox (defBody st) ds ∧ ∀ args μ Φ, dsp args μ Φ → ds (endD μ Φ) (startD N.length args) μ) : FnG P w K mg base x ps (k + 1) dsp := by
  obtain ⟨fd, F⟩ := F
  exact ⟨_, fd, hm, F.kp, F.bindsN hbd, fnOk_of F S len fun cdv A outer s H E hr => hb _ cdv A outer s H E hr⟩
/-- a method without defaults -/
theorem methG_of {P : Program} {w : World} {K : PySem.W.Frag} {mg : Str → Option Value} {base : Heap} {C : Addr} {x qual : Str} {st : Stmt} {N ps : List Str} {k : Nat} {dsp : DSp} (F : FnP K qual x st (He.ma K C x)) (M : Meth K C x (He.ma K C x)) (S : FnScope N ps (defScope st))
    (hbd : ∀ (kV doc pm : Value) (an : Option Addr) (cdv ct : Value) (us : List Value), us.length = ps.length → bindArgs (PySem.W.fnOf x qual (defArgs st) (defBody st) (defScope st) .none kV doc pm an cdv ct) ⟨us, []⟩ = pure (ps.zip us))
    (len : ∀ ds μ Φ, dsp ds μ Φ → ds.length = ps.length)
    (hb : ∀ (f : Addr) (cdv : Value) (A : Around) (outer : List Env) (s : Shared) (H : Hp) (E : XK), Room k (A.deeper (envOfC qual (defScope st) s.heap.objs.size f cdv)) →
      ∃ ds, QSs (cxOf CX0 P w K mg base N qual (defScope st) f cdv A outer s H E).nox (defBody st) ds ∧ ∀ args μ Φ, dsp args μ Φ → ds (endD μ Φ) (startD N.length args) μ) : MethG P w K mg base C x ps (k + 1) dsp := by
  obtain ⟨fd, F⟩ := F
  exact ⟨_, fd, M, F.bindsN hbd, fnOk_of F S len fun cdv A outer s H E hr => hb _ cdv A outer s H E hr⟩
end K3
set_option Elab.async false
set_option linter.all false
set_option maxRecDepth 100000
set_option maxHeartbeats 800000
/-! KG1: the rounds' small defs. -/
namespace K3
open PySem PySem.Spec PyProof.Rows L2
theorem tf_ (h : true = false) : False := nomatch h
theorem ft_ (h : false = true) : False := nomatch h
theorem inV2 {x a b : Str} : inV (.str x) [.str a, .str b] = decide (x = a ∨ x = b) := by
  have := inV_str (i := x) (ns := [a, b])
  simp at this
  simpa using this
theorem inV_str2 {x : Str} {ns : List V} {ms : List Str} (h : ns = ms.map V.str := by rfl) : inV (.str x) ns = decide (x ∈ ms) := by subst h; exact inV_str
def ktm {α : Type} (o : Option α) (Q : α → Prop) : Prop := match o with | some ts => Q ts | none => False
theorem kt_step {α : Type} {o : Option α} {ts : α} {Q : α → Prop} (h : o = some ts) (q : Q ts) : ktm o Q := by subst h; exact q
theorem LcD.intro {bl : D → Option Rho} {dt : DT} {de : DE} {xs : List D} {μ1 : Mu} {Φ : List D → Mu → Prop} (W : Nat → List D → Mu → Prop) (h0 : W 0 [] μ1)
  (h1 : ∀ i x acc μ', xs[i]? = some x → W i acc μ' → ∃ ρb, bl x = some ρb ∧ dt ρb μ' fun b μ2 => (b = true → de ρb μ2 fun y μ3 => lenOk acc.length (W (i + 1) (acc ++ [y]) μ3)) ∧ (b = false → W (i + 1) acc μ2))
  (h2 : ∀ ys μ', W xs.length ys μ' → Φ ys μ') : LcD bl dt de xs μ1 Φ := ⟨W, h0, fun i x acc μ' a b => by obtain ⟨ρb, e, h⟩ := h1 i x acc μ' a b; rw [e]; exact h, h2⟩
theorem DcD.intro {bl : D → Option Rho} {dk dv : DE} {xs : List D} {μ1 : Mu} {Φ : List (List Leaf × D) → Mu → Prop} (W : Nat → List (List Leaf × D) → Mu → Prop) (h0 : W 0 [] μ1)
  (h1 : ∀ i x acc μ', xs[i]? = some x → W i acc μ' → ∃ ρb, bl x = some ρb ∧ dk ρb μ' fun y μ2 => dv ρb μ2 fun z μ3 => ∃ k, y = keyD k ∧ lenOk acc.length (W (i + 1) (putD acc k z) μ3))
  (h2 : ∀ ys μ', W xs.length ys μ' → Φ ys μ') : DcD bl dk dv xs μ1 Φ := ⟨W, h0, fun i x acc μ' a b => by obtain ⟨ρb, e, h⟩ := h1 i x acc μ' a b; rw [e]; exact h, h2⟩
/-! ### the model -/
def pD (p : Option Nat) : D := match p with | none => dN | some i => dI (i : Int)
structure RowM where
  mode : Str
  pick : Str
  move : Str
  thn : Str
  also : Bool
abbrev picksL : List Str := ["keep", "at", "past", "under", "all"]
abbrev movesL : List Str := ["stay", "on", "home"]
def rowD (K : PySem.W.Frag) (r : RowM) : D := .ob (He.ga K "Row") ["mode", "pick", "move", "then", "also"] [dS r.mode, dS r.pick, dS r.move, dS r.thn, dB r.also]
/-- where a row looks: from .., before .. -/
def regM (pick : Str) (p : Option Nat) (n : Nat) : Nat × Nat := match p with
  | none => if pick = "all" ∨ pick = "at" ∨ pick = "past" then (0, n) else (0, 0)
  | some i => if pick = "all" then (0, n) else if pick = "keep" then (i, i + 1) else if pick = "under" then (0, i) else if pick = "at" then (i, n) else (i + 1, n)
def inReg (r : RowM) (p : Option Nat) (n a : Nat) : Bool := decide ((regM r.pick p n).1 ≤ a ∧ a < (regM r.pick p n).2)
def grM (r : RowM) (p : Option Nat) (n : Nat) (A : List Nat) : Option Nat := A.find? (inReg r p n)
def behM (r : RowM) (p : Option Nat) (g : Nat) : Option Nat := if r.move = "stay" then p else if r.move = "on" then some g else none
def intsD (A : List Nat) : List D := A.map fun (a : Nat) => dI (a : Int)
def S_region_of : DSp := fun xs μ Φ => ∃ (pick : Str) (p : Option Nat) (n : Nat), xs = [dS pick, pD p, dI (n : Int)] ∧ Φ (.tup [dI ((regM pick p n).1 : Nat), dI ((regM pick p n).2 : Nat)]) μ
section
variable {P : Program} {w : World} {K : PySem.W.Frag} {mg : Str → Option Value} {base : Heap}
theorem sc_region_of : FnScope ["pick", "pointer", "askers"] ["pick", "pointer", "askers"] (defScope (top 29)) := ⟨rfl, rfl, rfl, by decide +kernel, rfl, by decide +kernel, by decide +kernel⟩
theorem G_region_of (T : TF w K mg) (F : FnP K "region_of" "region_of" (top 29) (He.ga K "region_of")) (hm : mg "region_of" = some (.ref (He.ga K "region_of")))  : FnG P w K mg base "region_of" ["pick", "pointer", "askers"] 1 (S_region_of) := by
  refine fnG_of F hm sc_region_of (fun _ _ _ _ _ _ us hl => match us, hl with | [_, _, _], _ => rfl) ?_ ?_
  · (intro ds μ Φ h; first | (obtain ⟨_, rfl, _⟩ := h; rfl) | (obtain ⟨_, _, rfl, _⟩ := h; rfl) | (obtain ⟨_, _, _, rfl, _⟩ := h; rfl) | (obtain ⟨_, _, _, _, rfl, _⟩ := h; rfl) | (obtain ⟨_, _, _, _, _, rfl, _⟩ := h; rfl) | (obtain ⟨_, _, _, _, _, _, rfl, _⟩ := h; rfl))
  intro f cdv A outer s H E hr
  have nd := sc_region_of.nd
  refine ⟨_, (ss_cons (s_if (t_w (w_or (t_eq (q_var 0) q_str) (w_or1 (t_w (w_and (t_isN (q_var 1)) (w_and1 (t_cmp (op_in_seq) sim_in (q_var 0) (q_tup (a_cons q_str (a_cons q_str a_nil))) (by rfl)))))))) (ss_one (s_ret (q_tup (a_cons q_int (a_cons (q_var 2) a_nil))))) ss_nil)
      (ss_cons (s_if (t_isN (q_var 1)) (ss_one (s_ret (q_tup (a_cons q_int (a_cons q_int a_nil))))) ss_nil)
      (ss_cons (s_if (t_eq (q_var 0) q_str) (ss_one (s_ret (q_tup (a_cons (q_var 1) (a_cons (q_add (q_var 1) q_int) a_nil))))) ss_nil)
      (ss_cons (s_if (t_eq (q_var 0) q_str) (ss_one (s_ret (q_tup (a_cons q_int (a_cons (q_var 1) a_nil))))) ss_nil)
      (ss_one (s_ret (q_tup (a_cons (q_if (t_eq (q_var 0) q_str) (q_var 1) (q_add (q_var 1) q_int)) (a_cons (q_var 2) a_nil))))))))), ?_⟩
  clear hr nd F hm
  rintro _ μ Φ ⟨pick, p, n, rfl, h⟩
  rcases p with _ | p
  all_goals ((repeat' ((conv => whnf) <;> first | refine And.intro rfl ?_ | (refine And.intro (fun hc => ?_) (fun hc => ?_) <;> first | (exact (tf_ hc).elim) | (exact (ft_ hc).elim) | skip) | refine @Exists.intro Mu _ _ (And.intro (fun _ _ e => e) ?_) | refine @Exists.intro (List V) _ _ (And.intro rfl ?_) | refine @Exists.intro PyData _ _ (And.intro rfl ?_))) <;> (try (conv => whnf)))
  all_goals simp_all [regM, pD, inV2]
  all_goals (first | rfl | skip)
def S_granted_by (K : PySem.W.Frag) : DSp := fun xs μ Φ => ∃ (r : RowM) (p : Option Nat) (n : Nat) (A : List Nat), xs = [rowD K r, pD p, dI (n : Int), .tup (intsD A)] ∧ Φ (pD (grM r p n A)) μ
theorem intsD_get {A : List Nat} {i : Nat} {d : D} (h : (intsD A)[i]? = some d) : ∃ a, A[i]? = some a ∧ d = dI (a : Int) := by
  unfold intsD at h
  rw [List.getElem?_map] at h
  cases e : A[i]? with
  | none => rw [e] at h; cases h
  | some a => rw [e] at h; cases h; exact ⟨a, rfl, rfl⟩
theorem drop_get {α : Type} {A : List α} {i : Nat} {a : α} (h : A[i]? = some a) : A.drop i = a :: A.drop (i + 1) := by
  obtain ⟨h1, rfl⟩ := List.getElem?_eq_some_iff.mp h
  exact List.drop_eq_getElem_cons h1
theorem take_get {α : Type} {A : List α} {i : Nat} {a : α} (h : A[i]? = some a) : A.take (i + 1) = A.take i ++ [a] := by
  rw [List.take_add_one, h] <;> rfl
theorem sc_granted_by : FnScope ["row", "pointer", "askers", "asking", "begin", "end", "asker"] ["row", "pointer", "askers", "asking"] (defScope (top 30)) := ⟨rfl, rfl, rfl, by decide +kernel, rfl, by decide +kernel, by decide +kernel⟩
theorem G_granted_by (T : TF w K mg) (F : FnP K "granted_by" "granted_by" (top 30) (He.ga K "granted_by")) (hm : mg "granted_by" = some (.ref (He.ga K "granted_by"))) (G_region_of : FnG P w K mg base "region_of" ["pick", "pointer", "askers"] 1 (S_region_of)) : FnG P w K mg base "granted_by" ["row", "pointer", "askers", "asking"] 2 ((S_granted_by K)) := by
  refine fnG_of F hm sc_granted_by (fun _ _ _ _ _ _ us hl => match us, hl with | [_, _, _, _], _ => rfl) ?_ ?_
  · (intro ds μ Φ h; first | (obtain ⟨_, rfl, _⟩ := h; rfl) | (obtain ⟨_, _, rfl, _⟩ := h; rfl) | (obtain ⟨_, _, _, rfl, _⟩ := h; rfl) | (obtain ⟨_, _, _, _, rfl, _⟩ := h; rfl) | (obtain ⟨_, _, _, _, _, rfl, _⟩ := h; rfl) | (obtain ⟨_, _, _, _, _, _, rfl, _⟩ := h; rfl))
  intro f cdv A outer s H E hr
  have nd := sc_granted_by.nd
  refine ⟨_, (ss_cons (s_asg (q_call G_region_of (hr.mono (by decide)) rfl (a_cons (q_fld (He.ga K "Row") ["mode", "pick", "move", "then", "also"] 1 T.row.cl (T.row.na _ (by simp)) (q_var 0)) (a_cons (q_var 1) (a_cons (q_var 2) a_nil)))) (g_tup rfl (gs_cons (g_name (i := 4) nd rfl (.inl rfl)) (gs_cons (g_name (i := 5) nd rfl (.inl rfl)) gs_nil))))
      (ss_cons (s_for PassesOwn.never rfl (i_tup (q_var 3)) (g_name (i := 6) nd rfl (.inl rfl)) (ss_one (s_if (t_chain op_le op_lt sim_I0 sim_I0 (q_var 4) (q_var 6) (q_var 5)) (ss_one (s_ret (q_var 6))) ss_nil)))
      (ss_one (s_ret q_non)))), ?_⟩
  clear hr nd F hm
  rintro _ μ Φ ⟨r, p, n, A, rfl, h⟩
  ((conv => whnf) <;> first | refine And.intro rfl ?_ | (refine And.intro (fun hc => ?_) (fun hc => ?_) <;> first | (exact (tf_ hc).elim) | (exact (ft_ hc).elim) | skip) | refine @Exists.intro Mu _ _ (And.intro (fun _ _ e => e) ?_) | refine @Exists.intro (List V) _ _ (And.intro rfl ?_) | refine @Exists.intro PyData _ _ (And.intro rfl ?_))
  refine And.intro rfl ?_
  refine ⟨r.pick, p, n, rfl, ?_⟩
  (conv => whnf)
  refine ⟨fun i ρ μ' => μ' = μ ∧ (∃ d, ρ = [some (rowD K r), some (pD p), some (dI (n : Int)), some (.tup (intsD A)), some (dI ((regM r.pick p n).1 : Nat)), some (dI ((regM r.pick p n).2 : Nat)), d]) ∧ grM r p n A = grM r p n (A.drop i), ⟨rfl, ⟨_, rfl⟩, rfl⟩, ?_, ?_⟩
  · rintro i x ρ μ' hx ⟨rfl, ⟨d, rfl⟩, e⟩
    obtain ⟨a, ha, rfl⟩ := intsD_get hx
    rw [drop_get ha] at e
    ((repeat' ((conv => whnf) <;> first | refine And.intro rfl ?_ | (refine And.intro (fun hc => ?_) (fun hc => ?_) <;> first | (exact (tf_ hc).elim) | (exact (ft_ hc).elim) | skip) | refine @Exists.intro Mu _ _ (And.intro (fun _ _ e => e) ?_) | refine @Exists.intro (List V) _ _ (And.intro rfl ?_) | refine @Exists.intro PyData _ _ (And.intro rfl ?_))) <;> (try (conv => whnf)))
    · have q : inReg r p n a = true := by simp_all [inReg]
      simp_all [grM, pD]
    · refine ⟨⟨_, rfl⟩, ?_⟩
      have q : inReg r p n a = false := by
        simp only [inReg, decide_eq_true_eq, decide_eq_false_iff_not] at *
        omega
      simp_all [grM]
    · refine ⟨⟨_, rfl⟩, ?_⟩
      have q : inReg r p n a = false := by
        simp only [inReg, decide_eq_true_eq, decide_eq_false_iff_not] at *
        omega
      simp_all [grM]
  · rintro ρ μ' ⟨rfl, ⟨d, rfl⟩, e⟩
    ((repeat' ((conv => whnf) <;> first | refine And.intro rfl ?_ | (refine And.intro (fun hc => ?_) (fun hc => ?_) <;> first | (exact (tf_ hc).elim) | (exact (ft_ hc).elim) | skip) | refine @Exists.intro Mu _ _ (And.intro (fun _ _ e => e) ?_) | refine @Exists.intro (List V) _ _ (And.intro rfl ?_) | refine @Exists.intro PyData _ _ (And.intro rfl ?_))) <;> (try (conv => whnf)))
    have : (intsD A).length = A.length := by simp [intsD]
    have e2 : grM r p n A = none := by rw [e, this, List.drop_length] <;> rfl
    rw [e2] at h
    exact h
def S_pointer_behind (K : PySem.W.Frag) : DSp := fun xs μ Φ => ∃ (r : RowM) (p : Option Nat) (g : Nat), xs = [rowD K r, pD p, dI (g : Int)] ∧ Φ (pD (behM r p g)) μ
theorem sc_pointer_behind : FnScope ["row", "pointer", "granted"] ["row", "pointer", "granted"] (defScope (top 31)) := ⟨rfl, rfl, rfl, by decide +kernel, rfl, by decide +kernel, by decide +kernel⟩
theorem G_pointer_behind (T : TF w K mg) (F : FnP K "pointer_behind" "pointer_behind" (top 31) (He.ga K "pointer_behind")) (hm : mg "pointer_behind" = some (.ref (He.ga K "pointer_behind")))  : FnG P w K mg base "pointer_behind" ["row", "pointer", "granted"] 1 ((S_pointer_behind K)) := by
  refine fnG_of F hm sc_pointer_behind (fun _ _ _ _ _ _ us hl => match us, hl with | [_, _, _], _ => rfl) ?_ ?_
  · (intro ds μ Φ h; first | (obtain ⟨_, rfl, _⟩ := h; rfl) | (obtain ⟨_, _, rfl, _⟩ := h; rfl) | (obtain ⟨_, _, _, rfl, _⟩ := h; rfl) | (obtain ⟨_, _, _, _, rfl, _⟩ := h; rfl) | (obtain ⟨_, _, _, _, _, rfl, _⟩ := h; rfl) | (obtain ⟨_, _, _, _, _, _, rfl, _⟩ := h; rfl))
  intro f cdv A outer s H E hr
  have nd := sc_pointer_behind.nd
  refine ⟨_, (ss_cons (s_if (t_eq (q_fld (He.ga K "Row") ["mode", "pick", "move", "then", "also"] 2 T.row.cl (T.row.na _ (by simp)) (q_var 0)) q_str) (ss_one (s_ret (q_var 1))) ss_nil)
      (ss_one (s_ret (q_if (t_eq (q_fld (He.ga K "Row") ["mode", "pick", "move", "then", "also"] 2 T.row.cl (T.row.na _ (by simp)) (q_var 0)) q_str) (q_var 2) q_non)))), ?_⟩
  clear hr nd F hm
  rintro _ μ Φ ⟨r, p, g, rfl, h⟩
  rcases p with _ | p
  all_goals ((repeat' ((conv => whnf) <;> first | refine And.intro rfl ?_ | (refine And.intro (fun hc => ?_) (fun hc => ?_) <;> first | (exact (tf_ hc).elim) | (exact (ft_ hc).elim) | skip) | refine @Exists.intro Mu _ _ (And.intro (fun _ _ e => e) ?_) | refine @Exists.intro (List V) _ _ (And.intro rfl ?_) | refine @Exists.intro PyData _ _ (And.intro rfl ?_))) <;> (try (conv => whnf)))
  all_goals simp_all [behM, pD]
def S_is_integer : DSp := fun xs μ Φ => ∃ i : Int, xs = [dI i] ∧ Φ (dB true) μ
theorem sc_is_integer : FnScope ["value"] ["value"] (defScope (top 24)) := ⟨rfl, rfl, rfl, by decide +kernel, rfl, by decide +kernel, by decide +kernel⟩
theorem G_is_integer (T : TF w K mg) (F : FnP K "is_integer" "is_integer" (top 24) (He.ga K "is_integer")) (hm : mg "is_integer" = some (.ref (He.ga K "is_integer")))  : FnG P w K mg base "is_integer" ["value"] 1 (S_is_integer) := by
  refine fnG_of F hm sc_is_integer (fun _ _ _ _ _ _ us hl => match us, hl with | [_], _ => rfl) ?_ ?_
  · (intro ds μ Φ h; first | (obtain ⟨_, rfl, _⟩ := h; rfl) | (obtain ⟨_, _, rfl, _⟩ := h; rfl) | (obtain ⟨_, _, _, rfl, _⟩ := h; rfl) | (obtain ⟨_, _, _, _, rfl, _⟩ := h; rfl) | (obtain ⟨_, _, _, _, _, rfl, _⟩ := h; rfl) | (obtain ⟨_, _, _, _, _, _, rfl, _⟩ := h; rfl))
  intro f cdv A outer s H E hr
  have nd := sc_is_integer.nd
  refine ⟨_, (ss_one (s_ret (q_and (q_cb call_isi sim_isi rfl (T.free "isinstance" (by simp)) (by decide +kernel) (a_cons (q_var 0) (a_cons (q_ty (n := "int") rfl (T.free "int" (by simp)) (by decide +kernel)) a_nil))) (q_one (q_not (q_cb call_isi sim_isi rfl (T.free "isinstance" (by simp)) (by decide +kernel) (a_cons (q_var 0) (a_cons (q_ty (n := "bool") rfl (T.free "bool" (by simp)) (by decide +kernel)) a_nil)))))))), ?_⟩
  clear hr nd F hm
  rintro _ μ Φ ⟨i, rfl, h⟩
  (conv => whnf)
  refine ⟨"int", true, rfl, rfl, ?_⟩
  (conv => whnf)
  refine ⟨fun _ => ?_, fun z => (tf_ z).elim⟩
  (conv => whnf)
  refine ⟨"int", false, rfl, rfl, ?_⟩
  ((repeat' ((conv => whnf) <;> first | refine And.intro rfl ?_ | (refine And.intro (fun hc => ?_) (fun hc => ?_) <;> first | (exact (tf_ hc).elim) | (exact (ft_ hc).elim) | skip) | refine @Exists.intro Mu _ _ (And.intro (fun _ _ e => e) ?_) | refine @Exists.intro (List V) _ _ (And.intro rfl ?_) | refine @Exists.intro PyData _ _ (And.intro rfl ?_))) <;> (try (conv => whnf)))
  exact h
def sqD (b : Bool) (xs : List D) : D := match b with | true => .tup xs | false => .lst xs
def S_is_sequence : DSp := fun xs μ Φ => ∃ (b : Bool) (ys : List D), xs = [sqD b ys] ∧ Φ (dB true) μ
theorem sc_is_sequence : FnScope ["value"] ["value"] (defScope (top 27)) := ⟨rfl, rfl, rfl, by decide +kernel, rfl, by decide +kernel, by decide +kernel⟩
theorem G_is_sequence (T : TF w K mg) (F : FnP K "is_sequence" "is_sequence" (top 27) (He.ga K "is_sequence")) (hm : mg "is_sequence" = some (.ref (He.ga K "is_sequence")))  : FnG P w K mg base "is_sequence" ["value"] 1 (S_is_sequence) := by
  refine fnG_of F hm sc_is_sequence (fun _ _ _ _ _ _ us hl => match us, hl with | [_], _ => rfl) ?_ ?_
  · (intro ds μ Φ h; first | (obtain ⟨_, rfl, _⟩ := h; rfl) | (obtain ⟨_, _, rfl, _⟩ := h; rfl) | (obtain ⟨_, _, _, rfl, _⟩ := h; rfl) | (obtain ⟨_, _, _, _, rfl, _⟩ := h; rfl) | (obtain ⟨_, _, _, _, _, rfl, _⟩ := h; rfl) | (obtain ⟨_, _, _, _, _, _, rfl, _⟩ := h; rfl))
  intro f cdv A outer s H E hr
  have nd := sc_is_sequence.nd
  refine ⟨_, (ss_one (s_ret (q_isLT rfl (T.free "isinstance" (by simp)) rfl (T.free "list" (by simp)) rfl (T.free "tuple" (by simp)) (q_var 0)))), ?_⟩
  clear hr nd F hm
  rintro _ μ Φ ⟨b, ys, rfl, h⟩
  rcases b with _ | _
  all_goals ((repeat' ((conv => whnf) <;> first | refine And.intro rfl ?_ | (refine And.intro (fun hc => ?_) (fun hc => ?_) <;> first | (exact (tf_ hc).elim) | (exact (ft_ hc).elim) | skip) | refine @Exists.intro Mu _ _ (And.intro (fun _ _ e => e) ?_) | refine @Exists.intro (List V) _ _ (And.intro rfl ?_) | refine @Exists.intro PyData _ _ (And.intro rfl ?_))) <;> (try (conv => whnf)))
  all_goals exact h
def S_is_word : DSp := fun xs μ Φ => ∃ (x : Str) (ts : List Str), xs = [dS x, .tup (ts.map dS)] ∧ Φ (dB (decide (x ∈ ts))) μ
theorem sc_is_word : FnScope ["value", "words"] ["value", "words"] (defScope (top 25)) := ⟨rfl, rfl, rfl, by decide +kernel, rfl, by decide +kernel, by decide +kernel⟩
theorem G_is_word (T : TF w K mg) (F : FnP K "is_word" "is_word" (top 25) (He.ga K "is_word")) (hm : mg "is_word" = some (.ref (He.ga K "is_word")))  : FnG P w K mg base "is_word" ["value", "words"] 1 (S_is_word) := by
  refine fnG_of F hm sc_is_word (fun _ _ _ _ _ _ us hl => match us, hl with | [_, _], _ => rfl) ?_ ?_
  · (intro ds μ Φ h; first | (obtain ⟨_, rfl, _⟩ := h; rfl) | (obtain ⟨_, _, rfl, _⟩ := h; rfl) | (obtain ⟨_, _, _, rfl, _⟩ := h; rfl) | (obtain ⟨_, _, _, _, rfl, _⟩ := h; rfl) | (obtain ⟨_, _, _, _, _, rfl, _⟩ := h; rfl) | (obtain ⟨_, _, _, _, _, _, rfl, _⟩ := h; rfl))
  intro f cdv A outer s H E hr
  have nd := sc_is_word.nd
  refine ⟨_, (ss_one (s_ret (q_and (q_cb call_isi sim_isi rfl (T.free "isinstance" (by simp)) (by decide +kernel) (a_cons (q_var 0) (a_cons (q_ty (n := "str") rfl (T.free "str" (by simp)) (by decide +kernel)) a_nil))) (q_one (q_cmp (op_in_seq) sim_in (q_var 0) (q_var 1) (by rfl)))))), ?_⟩
  clear hr nd F hm
  rintro _ μ Φ ⟨x, ts, rfl, h⟩
  (conv => whnf)
  refine ⟨"str", true, rfl, rfl, ?_⟩
  (conv => whnf)
  refine ⟨fun _ => ?_, fun z => (tf_ z).elim⟩
  (conv => whnf)
  refine ⟨rfl, ts.map V.str, flats_str ts, ?_⟩
  ((repeat' ((conv => whnf) <;> first | refine And.intro rfl ?_ | (refine And.intro (fun hc => ?_) (fun hc => ?_) <;> first | (exact (tf_ hc).elim) | (exact (ft_ hc).elim) | skip) | refine @Exists.intro Mu _ _ (And.intro (fun _ _ e => e) ?_) | refine @Exists.intro (List V) _ _ (And.intro rfl ?_) | refine @Exists.intro PyData _ _ (And.intro rfl ?_))) <;> (try (conv => whnf)))
  show Φ (dB (inV (.str x) (ts.map V.str))) μ
  rw [inV_str]; exact h
def lettersS : Str := "abcdefghijklmnopqrstuvwxyz"
def nameOk (x : Str) : Bool := decide (0 < x.length) && decide (x.length ≤ 4) && decide (x ≠ "also") && x.cps.toList.all fun c => decide (c ∈ lettersS.cps.toList)
def S_is_name : DSp := fun xs μ Φ => ∃ x : Str, xs = [dS x] ∧ nameOk x = true ∧ Φ (dB true) μ
theorem sc_is_name : FnScope ["value", "letter"] ["value"] (defScope (top 26)) := ⟨rfl, rfl, rfl, by decide +kernel, rfl, by decide +kernel, by decide +kernel⟩
theorem G_is_name (T : TF w K mg) (F : FnP K "is_name" "is_name" (top 26) (He.ga K "is_name")) (hm : mg "is_name" = some (.ref (He.ga K "is_name")))  : FnG P w K mg base "is_name" ["value"] 1 (S_is_name) := by
  refine fnG_of F hm sc_is_name (fun _ _ _ _ _ _ us hl => match us, hl with | [_], _ => rfl) ?_ ?_
  · (intro ds μ Φ h; first | (obtain ⟨_, rfl, _⟩ := h; rfl) | (obtain ⟨_, _, rfl, _⟩ := h; rfl) | (obtain ⟨_, _, _, rfl, _⟩ := h; rfl) | (obtain ⟨_, _, _, _, rfl, _⟩ := h; rfl) | (obtain ⟨_, _, _, _, _, rfl, _⟩ := h; rfl) | (obtain ⟨_, _, _, _, _, _, rfl, _⟩ := h; rfl))
  intro f cdv A outer s H E hr
  have nd := sc_is_name.nd
  refine ⟨_, (ss_cons (s_if (t_w (w_or (t_not (t_val (q_cb call_isi sim_isi rfl (T.free "isinstance" (by simp)) (by decide +kernel) (a_cons (q_var 0) (a_cons (q_ty (n := "str") rfl (T.free "str" (by simp)) (by decide +kernel)) a_nil))))) (w_or (t_not (t_chain op_lt op_le sim_I0 sim_I0 q_int (q_cb call_len_str sim_lenS rfl (T.free "len" (by simp)) (by decide +kernel) (a_cons (q_var 0) a_nil)) (q_gI rfl T.most))) (w_or1 (t_cmp (op_in_seq) sim_in (q_var 0) (q_kt (fun _ _ => kt_ok) (q_gR rfl T.barred)) (by rfl)))))) (ss_one (s_ret q_bl)) ss_nil)
      (ss_one (s_ret (q_cb (cr_all rfl) sim_all rfl (T.free "all" (by simp)) (by decide +kernel) (a_cons (q_lc (own := [("letter", 1)]) (blk1 1) rfl nd (blkOk_by (own := [("letter", 1)]) (by kernel_rfl)) (i_str (q_var 0)) (fun _ _ _ _ _ => (pg_name (i := 1) nd rfl (.inl rfl))) (fun _ _ _ _ _ => ts_nil) (fun _ _ _ _ _ => (q_cmp (op_in_sign) sim_insg (q_var 1) (q_gS rfl T.letters) (by rfl)))) a_nil))))), ?_⟩
  clear hr nd F hm
  rintro _ μ Φ ⟨x, rfl, hx, h⟩
  simp only [nameOk, Bool.and_eq_true, decide_eq_true_eq] at hx
  obtain ⟨⟨⟨h1, h2⟩, h3⟩, h4⟩ := hx
  (conv => whnf)
  refine ⟨"str", true, rfl, rfl, ?_⟩
  ((conv => whnf) <;> first | refine And.intro rfl ?_ | (refine And.intro (fun hc => ?_) (fun hc => ?_) <;> first | (exact (tf_ hc).elim) | (exact (ft_ hc).elim) | skip) | refine @Exists.intro Mu _ _ (And.intro (fun _ _ e => e) ?_) | refine @Exists.intro (List V) _ _ (And.intro rfl ?_) | refine @Exists.intro PyData _ _ (And.intro rfl ?_))
  (conv => whnf)
  refine lenOk.mk (by omega) ?_
  have hlen : decide ((0 : Int) < (x.length : Int)) = true := by simp; omega
  have hlen2 : decide ((x.length : Int) ≤ 4) = true := by simp; omega
  (conv => whnf)
  refine ⟨fun _ => ?_, fun z => ?_⟩
  · (conv => whnf)
    refine ⟨fun z => ?_, fun _ => ?_⟩
    · rw [show decide ((x.length : Int) ≤ 4) = false from Bool.not_eq_true' _ ▸ z] at hlen2; exact (ft_ hlen2).elim
    · (conv => whnf)
      split
      case h_2 e => exact nomatch (T.barredK.symm.trans e)
      rename_i ts e
      cases (T.barredK.symm.trans e)
      refine ⟨rfl, _, rfl, ?_⟩
      have e3 : inV (.str x) [V.str "also"] = false := by
        have z := inV_str (i := x) (ns := ["also"])
        rw [show inV (.str x) [V.str "also"] = _ from z]
        simpa using h3
      refine ⟨fun z => ?_, fun _ => ?_⟩
      · rw [show inV (.str x) [V.str "also"] = true from z] at e3; exact (tf_ e3).elim
      · (conv => whnf)
        refine LcD.map (fun _ => dB true) ?_ ?_ ?_
        · rw [List.length_map]
          have : x.cps.toList.length = x.length := rfl
          omega
        · intro i y hy
          rw [List.getElem?_map] at hy
          cases e : x.cps.toList[i]? with
          | none => rw [e] at hy; cases hy
          | some c =>
            rw [e] at hy; cases hy
            refine ⟨_, rfl, fun Ψ hΨ => ?_⟩
            (conv => whnf)
            refine ⟨c, rfl, ?_⟩
            have hc : decide (c ∈ lettersS.cps.toList) = true := List.all_eq_true.mp h4 c (List.mem_of_getElem? e)
            show Ψ (dB (decide (c ∈ lettersS.cps.toList))) μ
            rw [hc]; exact hΨ
        · refine ⟨List.replicate x.cps.toList.length true, by simp [Function.comp_def, List.map_const'], ?_⟩
          refine ⟨μ, fun _ _ e => e, ?_⟩
          simpa using h
  · rw [show decide ((0 : Int) < (x.length : Int)) = false from z] at hlen; exact (ft_ hlen).elim
theorem natL : ∀ {ns : List Int}, (∀ x ∈ ns, 0 ≤ x) → ns.map dI = intsD (ns.map Int.toNat)
  | [], _ => rfl
  | x :: xs, h => by
    have h1 := h x List.mem_cons_self
    have ih := natL (ns := xs) fun y hy => h y (List.mem_cons_of_mem _ hy)
    show dI x :: xs.map dI = dI ((x.toNat : Nat) : Int) :: intsD (xs.map Int.toNat)
    rw [ih, Int.toNat_of_nonneg h1]
theorem intsI (A : List Nat) : intsD A = (A.map fun (a : Nat) => (a : Int)).map dI := by unfold intsD; rw [List.map_map] <;> rfl
theorem intsD_len (A : List Nat) : (intsD A).length = A.length := by unfold intsD; rw [List.length_map]
/-- what sorting ints makes of naturals -/
theorem sort_nat {A : List Nat} {ns : List Int} (p : ns.Perm (A.map fun (a : Nat) => (a : Int))) (o : ns.Pairwise (· ≤ ·)) : ∃ A' : List Nat, ns.map dI = intsD A' ∧ A'.Perm A ∧ A'.Pairwise (· ≤ ·) := by
  have h0 : ∀ x ∈ ns, 0 ≤ x := fun x hx => by
    have := p.mem_iff.mp hx
    obtain ⟨a, _, rfl⟩ := List.mem_map.mp this
    exact Int.natCast_nonneg a
  refine ⟨ns.map Int.toNat, natL h0, ?_, ?_⟩
  · have := p.map Int.toNat
    rw [List.map_map] at this
    have e : (Int.toNat ∘ fun (a : Nat) => (a : Int)) = id := by funext a; simp
    rw [e, List.map_id] at this
    exact this
  · rw [List.pairwise_map]
    exact o.imp fun h => Int.toNat_le_toNat h
theorem sorts_nat {A : List Nat} {ns : List Int} (m : ∀ k, k ∈ ns ↔ k ∈ A.map fun (a : Nat) => (a : Int)) (o : ns.Pairwise (· < ·)) : ∃ A' : List Nat, ns.map dI = intsD A' ∧ (∀ a, a ∈ A' ↔ a ∈ A) ∧ A'.Pairwise (· < ·) := by
  have h0 : ∀ x ∈ ns, 0 ≤ x := fun x hx => by
    obtain ⟨a, _, rfl⟩ := List.mem_map.mp ((m x).mp hx)
    exact Int.natCast_nonneg a
  refine ⟨ns.map Int.toNat, natL h0, fun a => ?_, ?_⟩
  · constructor
    · intro h
      obtain ⟨x, hx, rfl⟩ := List.mem_map.mp h
      obtain ⟨b, hb, rfl⟩ := List.mem_map.mp ((m x).mp hx)
      simpa using hb
    · intro h
      exact List.mem_map.mpr ⟨(a : Int), (m _).mpr (List.mem_map.mpr ⟨a, h, rfl⟩), by simp⟩
  · rw [List.pairwise_map]
    refine List.Pairwise.imp_of_mem ?_ o
    intro a b ha hb h
    have := h0 a ha
    omega
def S_ascending : DSp := fun xs μ Φ => ∃ (b : Bool) (A : List Nat), xs = [sqD b (intsD A)] ∧ A.length ≤ 1000 ∧ ∀ A' : List Nat, A'.Perm A → A'.Pairwise (· ≤ ·) → Φ (.tup (intsD A')) μ
theorem rdSq {b : Bool} {xs : List D} {μ : Mu} {Ψ : List D → Prop} (h : Ψ xs) : rdSeq (sqD b xs) μ Ψ := by cases b <;> exact h
end
end K3
set_option Elab.async false
set_option linter.all false
set_option maxRecDepth 100000
set_option maxHeartbeats 800000
/-! KG2: rounds, plays. -/
namespace K3
open PySem PySem.Spec PyProof.Rows L2
theorem mup_off {μ : Mu} {p : Addr} {o : MO} (h : μ p = none) : ∀ a u, μ a = some u → mup μ p o a = some u := fun a u e => by
  rw [mup_ne (fun z => by rw [z, h] at e; cases e)]; exact e
def tupI (A : List Nat) : D := .tup (intsD A)
abbrev StM := Str × Option Nat
structure RuleM where
  first : Str
  rows : List RowM
def ruleD (K : PySem.W.Frag) (R : RuleM) (md : D) : D := .ob (He.ga K "Rule") ["first", "rows", "modes"] [dS R.first, .tup (R.rows.map (rowD K)), md]
def hitM (r : RowM) (s : StM) (n : Nat) (A : List Nat) : Option Nat := if r.mode = s.1 then grM r s.2 n A else none
structure Acc where
  done : Option Nat
  grs : List Nat
  beh : StM
def accM (s : StM) (n : Nat) (A : List Nat) (i : Nat) (r : RowM) (c : Acc) : Acc := match hitM r s n A with
  | none => c
  | some g => match c.done with
    | none => ⟨some i, c.grs ++ [g], (r.thn, behM r s.2 g)⟩
    | some j => if r.also then ⟨some j, c.grs ++ [g], c.beh⟩ else c
def rdM (s : StM) (n : Nat) (A : List Nat) : List RowM → Nat → Acc → Acc
  | [], _, c => c
  | r :: rs, i, c => rdM s n A rs (i + 1) (accM s n A i r c)
def roundM (rows : List RowM) (s : StM) (n : Nat) (A : List Nat) : Acc := rdM s n A rows 0 ⟨none, [], s⟩
def SrtOf (A B : List Nat) : Prop := B.Pairwise (· < ·) ∧ ∀ a, a ∈ B ↔ a ∈ A
def S_round_done (K : PySem.W.Frag) : DSp := fun xs μ Φ => ∃ (R : RuleM) (md : D) (s : StM) (n : Nat) (A : List Nat), xs = [ruleD K R md, dS s.1, pD s.2, dI (n : Int), tupI A] ∧ R.rows.length < 60 ∧
  ∀ gs, SrtOf (roundM R.rows s n A).grs gs → Φ (.tup [pD (roundM R.rows s n A).done, tupI gs, dS (roundM R.rows s n A).beh.1, pD (roundM R.rows s n A).beh.2]) μ
section
variable {P : Program} {w : World} {K : PySem.W.Frag} {mg : Str → Option Value} {base : Heap}
theorem enum_get {α : Type} {f : α → D} {xs : List α} {i : Nat} {d : D} (h : (enumD (xs.map f))[i]? = some d) : ∃ a, xs[i]? = some a ∧ d = .tup [dI (i : Int), f a] := by
  rw [enumD_get, List.getElem?_map] at h
  cases e : xs[i]? with
  | none => rw [e] at h; cases h
  | some a => rw [e] at h; cases h; exact ⟨a, rfl, rfl⟩
theorem sc_ascending : FnScope ["asking", "asker"] ["asking"] (defScope (top 34)) := ⟨rfl, rfl, rfl, by decide +kernel, rfl, by decide +kernel, by decide +kernel⟩
theorem G_ascending (T : TF w K mg) (F : FnP K "ascending" "ascending" (top 34) (He.ga K "ascending")) (hm : mg "ascending" = some (.ref (He.ga K "ascending")))  : FnG P w K mg base "ascending" ["asking"] 1 (S_ascending) := by
  refine fnG_of F hm sc_ascending (fun _ _ _ _ _ _ us hl => match us, hl with | [_], _ => rfl) ?_ ?_
  · (intro ds μ Φ h; first | (obtain ⟨_, rfl, _⟩ := h; rfl) | (obtain ⟨_, _, rfl, _⟩ := h; rfl) | (obtain ⟨_, _, _, rfl, _⟩ := h; rfl) | (obtain ⟨_, _, _, _, rfl, _⟩ := h; rfl) | (obtain ⟨_, _, _, _, _, rfl, _⟩ := h; rfl) | (obtain ⟨_, _, _, _, _, _, rfl, _⟩ := h; rfl))
  intro f cdv A outer s H E hr
  have nd := sc_ascending.nd
  refine ⟨_, (ss_one (s_ret (q_cty call_tuple_of sim_tuple rfl (T.free "tuple" (by simp)) (by decide +kernel) (a_cons (q_cb cr_sortedI sim_sort rfl (T.free "sorted" (by simp)) (by decide +kernel) (a_cons (q_lc (own := [("asker", 1)]) (blk1 1) rfl nd (blkOk_by (own := [("asker", 1)]) (by kernel_rfl)) (i_seq (q_var 0)) (fun _ _ _ _ _ => (pg_name (i := 1) nd rfl (.inl rfl))) (fun _ _ _ _ _ => ts_nil) (fun _ _ _ _ _ => (q_cty call_int1 sim_int rfl (T.free "int" (by simp)) (by decide +kernel) (a_cons (q_var 1) a_nil)))) a_nil)) a_nil)))), ?_⟩
  clear hr nd F hm
  rintro _ μ Φ ⟨b, A, rfl, hl, h⟩
  rcases b with _ | _
  all_goals
    (conv => whnf)
    first
      | (refine Or.inl ?_; (conv => whnf); refine LcD.map id (by rw [intsD_len]; omega) ?_ ?_)
      | (refine Or.inr ?_; (conv => whnf); refine LcD.map id (by rw [intsD_len]; omega) ?_ ?_)
    · intro i x hx
      obtain ⟨a, ha, rfl⟩ := intsD_get hx
      exact ⟨_, rfl, fun Ψ hΨ => hΨ⟩
    · (conv => whnf)
      refine ⟨A.map fun (a : Nat) => (a : Int), by rw [List.map_id, intsI], ?_⟩
      intro ns p o
      obtain ⟨A', e1, e2, e3⟩ := sort_nat p o
      (conv => whnf)
      refine ⟨μ, fun _ _ e => e, ?_⟩
      rw [e1]
      exact h A' e2 e3
def S_is_round : DSp := fun xs μ Φ => ∃ (b : Bool) (A : List Nat) (n : Nat), xs = [sqD b (intsD A), dI (n : Int)] ∧ A.length < 64 ∧ A.Nodup ∧ (∀ a ∈ A, a < n) ∧ Φ (dB true) μ
theorem sc_is_round : FnScope ["value", "askers", "asker"] ["value", "askers"] (defScope (top 33)) := ⟨rfl, rfl, rfl, by decide +kernel, rfl, by decide +kernel, by decide +kernel⟩
theorem G_is_round (T : TF w K mg) (F : FnP K "is_round" "is_round" (top 33) (He.ga K "is_round")) (hm : mg "is_round" = some (.ref (He.ga K "is_round"))) (G_is_integer : FnG P w K mg base "is_integer" ["value"] 1 (S_is_integer)) (G_is_sequence : FnG P w K mg base "is_sequence" ["value"] 1 (S_is_sequence)) : FnG P w K mg base "is_round" ["value", "askers"] 2 (S_is_round) := by
  refine fnG_of F hm sc_is_round (fun _ _ _ _ _ _ us hl => match us, hl with | [_, _], _ => rfl) ?_ ?_
  · (intro ds μ Φ h; first | (obtain ⟨_, rfl, _⟩ := h; rfl) | (obtain ⟨_, _, rfl, _⟩ := h; rfl) | (obtain ⟨_, _, _, rfl, _⟩ := h; rfl) | (obtain ⟨_, _, _, _, rfl, _⟩ := h; rfl) | (obtain ⟨_, _, _, _, _, rfl, _⟩ := h; rfl) | (obtain ⟨_, _, _, _, _, _, rfl, _⟩ := h; rfl))
  intro f cdv A outer s H E hr
  have nd := sc_is_round.nd
  refine ⟨_, (ss_cons (s_if (t_w (w_or (t_not (t_val (q_call G_is_sequence (hr.mono (by decide)) rfl (a_cons (q_var 0) a_nil)))) (w_or1 (t_not (t_val (q_cb (cr_all rfl) sim_all rfl (T.free "all" (by simp)) (by decide +kernel) (a_cons (q_lc (own := [("asker", 2)]) (blk1 2) rfl nd (blkOk_by (own := [("asker", 2)]) (by kernel_rfl)) (i_seq (q_var 0)) (fun _ _ _ _ _ => (pg_name (i := 2) nd rfl (.inl rfl))) (fun _ _ _ _ _ => ts_nil) (fun _ _ _ _ _ => (q_and (q_call G_is_integer (hr.mono (by decide)) rfl (a_cons (q_var 2) a_nil)) (q_one (q_chain op_le op_lt sim_I0 sim_I0 q_int (q_var 2) (q_var 1)))))) a_nil))))))) (ss_one (s_ret q_bl)) ss_nil)
      (ss_one (s_ret (q_eq (q_alt (q_lenSet rfl rfl (T.free "len" (by simp)) rfl (T.free "set" (by simp)) (q_var 0)) (q_lenSetT rfl rfl (T.free "len" (by simp)) rfl (T.free "set" (by simp)) (q_var 0))) (q_cb call_len_seq sim_len rfl (T.free "len" (by simp)) (by decide +kernel) (a_cons (q_var 0) a_nil)))))), ?_⟩
  clear hr nd F hm
  rintro _ μ Φ ⟨b, A, n, rfl, hl, nd, hn, h⟩
  have inj : (A.map fun (a : Nat) => (a : Int)).Nodup := by
    rw [List.Nodup, List.pairwise_map]
    exact nd.imp fun h z => h (by omega)
  rcases b with _ | _
  all_goals
    (conv => whnf)
    refine ⟨_, _, rfl, ?_⟩
    (conv => whnf)
    refine ⟨fun z => (ft_ z).elim, fun _ => ?_⟩
    (conv => whnf)
    first
      | (refine Or.inl ?_; (conv => whnf); refine LcD.map (fun _ => dB true) (by rw [intsD_len]; omega) ?_ ?_)
      | (refine Or.inr ?_; (conv => whnf); refine LcD.map (fun _ => dB true) (by rw [intsD_len]; omega) ?_ ?_)
    · intro i x hx
      obtain ⟨a, ha, rfl⟩ := intsD_get hx
      have h1 := hn a (List.mem_of_getElem? ha)
      refine ⟨_, rfl, fun Ψ hΨ => ?_⟩
      (conv => whnf)
      refine ⟨_, rfl, ?_⟩
      ((repeat' ((conv => whnf) <;> first | refine And.intro rfl ?_ | (refine And.intro (fun hc => ?_) (fun hc => ?_) <;> first | (exact (tf_ hc).elim) | (exact (ft_ hc).elim) | skip) | refine @Exists.intro Mu _ _ (And.intro (fun _ _ e => e) ?_) | refine @Exists.intro (List V) _ _ (And.intro rfl ?_) | refine @Exists.intro PyData _ _ (And.intro rfl ?_))) <;> (try (conv => whnf)))
      all_goals simp_all
    · (conv => whnf)
      refine ⟨List.replicate (intsD A).length true, by simp [List.map_const'], ?_⟩
      rw [show ((List.replicate (intsD A).length true).all id) = true by simp]
      (conv => whnf)
      refine ⟨fun z => (ft_ z).elim, fun _ => ?_⟩
      (conv => whnf)
      first
        | (refine Or.inl ?_; (conv => whnf); refine ⟨A.map fun (a : Nat) => (a : Int), intsI A, by rw [List.length_map]; exact hl, inj, ?_⟩)
        | (refine Or.inr ?_; (conv => whnf); refine ⟨A.map fun (a : Nat) => (a : Int), intsI A, by rw [List.length_map]; exact hl, inj, ?_⟩)
      (conv => whnf)
      refine ⟨rfl, ⟨μ, fun _ _ e => e, ?_⟩⟩
      rw [intsD_len, List.length_map]
      simpa using h
theorem makeG_of {k : Nat} {qual : Str} {st : Stmt} {N ps : List Str} {C : Addr} {dsp : DSp} (F : FnP K qual "__init__" st (He.ma K C "__init__")) (M : Mk K C (He.ma K C "__init__")) (S : FnScope N ps (defScope st))
    (hbd : ∀ (kV doc pm : Value) (an : Option Addr) (cdv ct : Value) (us : List Value), us.length = ps.length → bindArgs (PySem.W.fnOf "__init__" qual (defArgs st) (defBody st) (defScope st) .none kV doc pm an cdv ct) ⟨us, []⟩ = pure (ps.zip us))
    (len : ∀ ds μ Φ, dsp ds μ Φ → ds.length = ps.length)
    (hb : ∀ {f : Addr} {cdv : Value} {A : Around} {outer : List Env} {s : Shared} {H : Hp} {E : XK}, Room k (A.deeper (envOfC qual (defScope st) s.heap.objs.size f cdv)) →
      ∃ ds, QSs (cxOf CX0 P w K mg base N qual (defScope st) f cdv A outer s H E).nox (defBody st) ds ∧ ∀ args μ Φ, dsp args μ Φ → ds (endD μ Φ) (startD N.length args) μ) : MakeG P w K mg base C ps (k + 1) dsp := by
  obtain ⟨fd, F⟩ := F
  exact ⟨_, fd, M, F.bindsN hbd, fnOk_of F S len fun cdv A outer s H E hr => hb hr⟩
abbrev LPlayed : List Str := ["grants", "done", "modes", "pointers", "faults"]
def S_Played (K : PySem.W.Frag) : DSp := fun xs μ Φ => ∃ (p : Addr) (m : Str), xs = [dR p, dS m] ∧ μ p = some (.ob (He.ga K "Played") [] []) ∧ ∀ μ', (∀ a, a ≠ p → μ' a = μ a) → μ' p = some (.ob (He.ga K "Played") LPlayed [.tup [], .tup [], .tup [dS m], .tup [dN], .tup []]) → Φ dN μ'
theorem sc_Played___init__ : FnScope ["self", "first"] ["self", "first"] (defScope (inClass (top 36) 0)) := ⟨rfl, rfl, rfl, by decide +kernel, rfl, by decide +kernel, by decide +kernel⟩
theorem B_Played___init__ (T : TF w K mg)  : ∀ {f : Addr} {cdv : Value} {A : Around} {outer : List Env} {s : Shared} {H : Hp} {E : XK}, Room 0 (A.deeper (envOfC "Played.__init__" (defScope (inClass (top 36) 0)) s.heap.objs.size f cdv)) → ∃ ds, QSs (cxOf CX0 P w K mg base ["self", "first"] "Played.__init__" (defScope (inClass (top 36) 0)) f cdv A outer s H E).nox (defBody (inClass (top 36) 0)) ds ∧ ∀ args μ Φ, ((S_Played K) : DSp) args μ Φ → ds (endD μ Φ) (startD (["self", "first"] : List Str).length args) μ := by
  intro f cdv A outer s H E hr
  have nd := sc_Played___init__.nd
  refine ⟨_, (ss_cons (s_fldNew (He.ga K "Played") [] T.played.cl (T.played.na _ (by simp)) (by decide) (by decide) (q_tup a_nil) (q_var 0))
      (ss_cons (s_fldNew (He.ga K "Played") ["grants"] T.played.cl (T.played.na _ (by simp)) (by decide) (by decide) (q_tup a_nil) (q_var 0))
      (ss_cons (s_fldNew (He.ga K "Played") ["grants", "done"] T.played.cl (T.played.na _ (by simp)) (by decide) (by decide) (q_tup (a_cons (q_var 1) a_nil)) (q_var 0))
      (ss_cons (s_fldNew (He.ga K "Played") ["grants", "done", "modes"] T.played.cl (T.played.na _ (by simp)) (by decide) (by decide) (q_tup (a_cons q_non a_nil)) (q_var 0))
      (ss_one (s_fldNew (He.ga K "Played") ["grants", "done", "modes", "pointers"] T.played.cl (T.played.na _ (by simp)) (by decide) (by decide) (q_tup a_nil) (q_var 0))))))), ?_⟩
  rintro _ μ Φ ⟨p, m, rfl, hp, h⟩
  (conv => whnf)
  refine ⟨[], hp, ?_⟩
  (conv => whnf)
  refine ⟨_, mup_same, ?_⟩
  (conv => whnf)
  refine ⟨_, mup_same, ?_⟩
  (conv => whnf)
  refine ⟨_, mup_same, ?_⟩
  (conv => whnf)
  refine ⟨_, mup_same, ?_⟩
  (conv => whnf)
  refine ⟨_, fun _ _ e => e, ?_⟩
  refine h _ (fun a ha => ?_) mup_same
  rw [mup_ne ha, mup_ne ha, mup_ne ha, mup_ne ha, mup_ne ha]
def S_faults_in : DSp := fun xs μ Φ => ∃ (A gs : List Nat), xs = [tupI A, tupI gs] ∧ ∀ (l : Addr) (fs : List Str), μ l = none → fs.length ≤ 1 → Φ (dR l) (mup μ l (.lst (fs.map dS)))
theorem sc_faults_in : FnScope ["asking", "grants"] ["asking", "grants"] (defScope (top 37)) := ⟨rfl, rfl, rfl, by decide +kernel, rfl, by decide +kernel, by decide +kernel⟩
theorem G_faults_in (T : TF w K mg) (F : FnP K "faults_in" "faults_in" (top 37) (He.ga K "faults_in")) (hm : mg "faults_in" = some (.ref (He.ga K "faults_in")))  : FnG P w K mg base "faults_in" ["asking", "grants"] 1 (S_faults_in) := by
  refine fnG_of F hm sc_faults_in (fun _ _ _ _ _ _ us hl => match us, hl with | [_, _], _ => rfl) ?_ ?_
  · (intro ds μ Φ h; first | (obtain ⟨_, rfl, _⟩ := h; rfl) | (obtain ⟨_, _, rfl, _⟩ := h; rfl) | (obtain ⟨_, _, _, rfl, _⟩ := h; rfl) | (obtain ⟨_, _, _, _, rfl, _⟩ := h; rfl) | (obtain ⟨_, _, _, _, _, rfl, _⟩ := h; rfl) | (obtain ⟨_, _, _, _, _, _, rfl, _⟩ := h; rfl))
  intro f cdv A outer s H E hr
  have nd := sc_faults_in.nd
  refine ⟨_, (ss_cons (s_if (t_gt (q_cb call_len_seq sim_len rfl (T.free "len" (by simp)) (by decide +kernel) (a_cons (q_var 1) a_nil)) q_int) (ss_one (s_ret (q_lstM (a_cons q_str a_nil)))) ss_nil)
      (ss_one (s_ret (q_if (t_w (w_and (t_eq (q_cb call_len_seq sim_len rfl (T.free "len" (by simp)) (by decide +kernel) (a_cons (q_var 1) a_nil)) q_int) (w_and1 (t_gt (q_cb call_len_seq sim_len rfl (T.free "len" (by simp)) (by decide +kernel) (a_cons (q_var 0) a_nil)) q_int)))) (q_lstM (a_cons q_str a_nil)) (q_lstM a_nil))))), ?_⟩
  clear hr nd F hm
  rintro _ μ Φ ⟨A, gs, rfl, h⟩
  (conv => whnf)
  refine ⟨fun _ => ?_, fun _ => ?_⟩
  · (conv => whnf)
    intro l hl
    exact ⟨_, fun _ _ e => e, h l ["two"] hl (by decide)⟩
  · (conv => whnf)
    refine ⟨rfl, fun _ => ?_, fun _ => ?_⟩
    · (conv => whnf)
      refine ⟨fun _ => ?_, fun _ => ?_⟩
      · (conv => whnf)
        intro l hl
        exact ⟨_, fun _ _ e => e, h l ["none"] hl (by decide)⟩
      · (conv => whnf)
        intro l hl
        exact ⟨_, fun _ _ e => e, h l [] hl (by decide)⟩
    · (conv => whnf)
      refine ⟨fun z => (ft_ z).elim, fun _ => ?_⟩
      (conv => whnf)
      intro l hl
      exact ⟨_, fun _ _ e => e, h l [] hl (by decide)⟩
def RdD (q : Bool × List Nat) : D := sqD q.1 (intsD q.2)
def AskOk (n : Nat) (As : List (Bool × List Nat)) : Prop := As.length ≤ 900 ∧ ∀ q ∈ As, q.2.length < 64 ∧ q.2.Nodup ∧ ∀ a ∈ q.2, a < n
def SrtAll (As : List (Bool × List Nat)) (Bs : List (List Nat)) : Prop := Bs.length = As.length ∧ ∀ (i : Nat) (q : Bool × List Nat) (B : List Nat), As[i]? = some q → Bs[i]? = some B → SrtOf q.2 B
def S_good_rounds : DSp := fun xs μ Φ => ∃ (n : Nat) (b : Bool) (As : List (Bool × List Nat)), xs = [dI (n : Int), sqD b (As.map RdD)] ∧ AskOk n As ∧ ∀ Bs, SrtAll As Bs → Φ (.lst (Bs.map tupI)) μ
theorem sc_good_rounds : FnScope ["askers", "rounds", "at", "asking"] ["askers", "rounds"] (defScope (top 35)) := ⟨rfl, rfl, rfl, by decide +kernel, rfl, by decide +kernel, by decide +kernel⟩
theorem G_good_rounds (T : TF w K mg) (F : FnP K "good_rounds" "good_rounds" (top 35) (He.ga K "good_rounds")) (hm : mg "good_rounds" = some (.ref (He.ga K "good_rounds"))) (G_ascending : FnG P w K mg base "ascending" ["asking"] 1 (S_ascending)) (G_is_round : FnG P w K mg base "is_round" ["value", "askers"] 2 (S_is_round)) (G_is_sequence : FnG P w K mg base "is_sequence" ["value"] 1 (S_is_sequence)) : FnG P w K mg base "good_rounds" ["askers", "rounds"] 3 (S_good_rounds) := by
  refine fnG_of F hm sc_good_rounds (fun _ _ _ _ _ _ us hl => match us, hl with | [_, _], _ => rfl) ?_ ?_
  · (intro ds μ Φ h; first | (obtain ⟨_, rfl, _⟩ := h; rfl) | (obtain ⟨_, _, rfl, _⟩ := h; rfl) | (obtain ⟨_, _, _, rfl, _⟩ := h; rfl) | (obtain ⟨_, _, _, _, rfl, _⟩ := h; rfl) | (obtain ⟨_, _, _, _, _, rfl, _⟩ := h; rfl) | (obtain ⟨_, _, _, _, _, _, rfl, _⟩ := h; rfl))
  intro f cdv A outer s H E hr
  have nd := sc_good_rounds.nd
  refine ⟨_, (ss_cons (s_if (t_not (t_val (q_call G_is_sequence (hr.mono (by decide)) rfl (a_cons (q_var 1) a_nil)))) (ss_one s_never) ss_nil)
      (ss_cons (s_for PassesOwn.never rfl (i_alt (i_enumL rfl (T.free "enumerate" (by simp)) (a_cons (q_var 1) a_nil)) (i_enumT rfl (T.free "enumerate" (by simp)) (a_cons (q_var 1) a_nil))) (g_tup rfl (gs_cons (g_name (i := 2) nd rfl (.inl rfl)) (gs_cons (g_name (i := 3) nd rfl (.inl rfl)) gs_nil))) (ss_one (s_if (t_not (t_val (q_call G_is_round (hr.mono (by decide)) rfl (a_cons (q_var 3) (a_cons (q_var 0) a_nil))))) (ss_one s_never) ss_nil)))
      (ss_one (s_ret (q_lc (own := [("asking", 3)]) (blk1 3) rfl nd (blkOk_by (own := [("asking", 3)]) (by kernel_rfl)) (i_seq (q_var 1)) (fun _ _ _ _ _ => (pg_name (i := 3) nd rfl (.inl rfl))) (fun _ _ _ _ _ => ts_nil) (fun _ _ _ _ _ => (q_call G_ascending (hr.mono (by decide)) rfl (a_cons (q_var 3) a_nil)))))))), ?_⟩
  clear hr nd F hm
  rintro _ μ Φ ⟨n, b, As, rfl, ⟨hl, hok⟩, h⟩
  have got : ∀ {i : Nat} {x : D}, (As.map RdD)[i]? = some x → ∃ q, As[i]? = some q ∧ x = RdD q := fun {i x} e => by
    rw [List.getElem?_map] at e
    cases q : As[i]? with
    | none => rw [q] at e; cases e
    | some a => rw [q] at e; cases e; exact ⟨a, rfl, rfl⟩
  (conv => whnf)
  refine ⟨b, _, rfl, ?_⟩
  (conv => whnf)
  refine ⟨fun z => (ft_ z).elim, fun _ => ?_⟩
  rcases b with _ | _
  all_goals
    (conv => whnf)
    first
      | (refine Or.inl ?_; (conv => whnf); refine ⟨fun i ρ μ' => μ' = μ ∧ ∃ d2 d3, ρ = [some (dI (n : Int)), some (sqD false (As.map RdD)), d2, d3], ⟨rfl, _, _, rfl⟩, ?_, ?_⟩)
      | (refine Or.inr ?_; (conv => whnf); refine ⟨fun i ρ μ' => μ' = μ ∧ ∃ d2 d3, ρ = [some (dI (n : Int)), some (sqD true (As.map RdD)), d2, d3], ⟨rfl, _, _, rfl⟩, ?_, ?_⟩)
    · rintro i x ρ μ' hx ⟨rfl, d2, d3, rfl⟩
      obtain ⟨q, hq, rfl⟩ := enum_get hx
      obtain ⟨h1, h2, h3⟩ := hok q (List.mem_of_getElem? hq)
      (conv => whnf)
      refine ⟨q.1, q.2, n, rfl, h1, h2, h3, ?_⟩
      (conv => whnf)
      refine ⟨fun z => (ft_ z).elim, fun _ => ?_⟩
      (conv => whnf)
      exact ⟨rfl, _, _, rfl⟩
    · rintro ρ μ' ⟨rfl, d2, d3, rfl⟩
      (conv => whnf)
      first
        | refine Or.inl ?_
          (conv => whnf)
          refine LcD.intro (fun i acc μ2 => μ2 = μ' ∧ ∃ Bs, acc = Bs.map tupI ∧ SrtAll (As.take i) Bs) ⟨rfl, [], rfl, rfl, fun i q B e => by simp at e⟩ ?_ ?_
        | refine Or.inr ?_
          (conv => whnf)
          refine LcD.intro (fun i acc μ2 => μ2 = μ' ∧ ∃ Bs, acc = Bs.map tupI ∧ SrtAll (As.take i) Bs) ⟨rfl, [], rfl, rfl, fun i q B e => by simp at e⟩ ?_ ?_
      · rintro i x acc μ2 hx ⟨rfl, Bs, rfl, hs⟩
        obtain ⟨q, hq, rfl⟩ := got hx
        obtain ⟨h1, h2, h3⟩ := hok q (List.mem_of_getElem? hq)
        have hi := (List.getElem?_eq_some_iff.mp hq).1
        refine ⟨_, rfl, fun _ => ?_, fun z => (tf_ z).elim⟩
        (conv => whnf)
        refine ⟨q.1, q.2, rfl, by omega, fun B hp hs' => lenOk.mk ?_ ⟨rfl, Bs ++ [B], by simp [tupI], ?_⟩⟩
        · have := hs.1
          rw [List.length_map, this, List.length_take]; omega
        · have l1 : Bs.length = i := by rw [hs.1, List.length_take]; omega
          rw [take_get hq]
          refine ⟨by simp [hs.1], fun j q' B' e1 e2 => ?_⟩
          by_cases hj : j < i
          · rw [List.getElem?_append_left (by rw [List.length_take]; omega)] at e1
            rw [List.getElem?_append_left (by omega)] at e2
            exact hs.2 j q' B' e1 e2
          · have : j = i := by
              have := (List.getElem?_eq_some_iff.mp e2).1
              simp at this; omega
            subst this
            rw [List.getElem?_append_right (by rw [List.length_take]; omega)] at e1
            rw [List.getElem?_append_right (by omega)] at e2
            rw [List.length_take, Nat.min_eq_left (Nat.le_of_lt hi), Nat.sub_self] at e1
            rw [l1, Nat.sub_self] at e2
            cases e1; cases e2
            refine ⟨?_, fun a => hp.mem_iff⟩
            have nd2 := hp.nodup_iff.mpr h2
            exact (hs'.and nd2).imp fun ⟨u, v⟩ => by omega
      · rintro ys μ2 ⟨rfl, Bs, rfl, hs⟩
        refine ⟨_, fun _ _ e => e, h Bs ?_⟩
        rwa [List.take_of_length_le (by simp)] at hs
end
end K3
set_option Elab.async false
set_option linter.all false
set_option maxRecDepth 100000
set_option maxHeartbeats 800000
/-! KG3: a round, a play. -/
namespace K3
open PySem PySem.Spec PyProof.Rows L2
section
variable {P : Program} {w : World} {K : PySem.W.Frag} {mg : Str → Option Value} {base : Heap}
theorem accM_le {s : StM} {n : Nat} {A : List Nat} {i : Nat} {r : RowM} {c : Acc} (h : c.grs.length ≤ i) : (accM s n A i r c).grs.length ≤ i + 1 := by
  unfold accM
  split
  · omega
  · split
    · simp; omega
    · split
      · simp; omega
      · omega
theorem sc_round_done : FnScope ["rule", "mode", "pointer", "askers", "asking", "done", "grants", "behind", "at", "row", "granted", "asker"] ["rule", "mode", "pointer", "askers", "asking"] (defScope (top 32)) := ⟨rfl, rfl, rfl, by decide +kernel, rfl, by decide +kernel, by decide +kernel⟩
theorem G_round_done (T : TF w K mg) (F : FnP K "round_done" "round_done" (top 32) (He.ga K "round_done")) (hm : mg "round_done" = some (.ref (He.ga K "round_done"))) (G_granted_by : FnG P w K mg base "granted_by" ["row", "pointer", "askers", "asking"] 2 ((S_granted_by K))) (G_pointer_behind : FnG P w K mg base "pointer_behind" ["row", "pointer", "granted"] 1 ((S_pointer_behind K))) : FnG P w K mg base "round_done" ["rule", "mode", "pointer", "askers", "asking"] 3 ((S_round_done K)) := by
  refine fnG_of F hm sc_round_done (fun _ _ _ _ _ _ us hl => match us, hl with | [_, _, _, _, _], _ => rfl) ?_ ?_
  · (intro ds μ Φ h; first | (obtain ⟨_, rfl, _⟩ := h; rfl) | (obtain ⟨_, _, rfl, _⟩ := h; rfl) | (obtain ⟨_, _, _, rfl, _⟩ := h; rfl) | (obtain ⟨_, _, _, _, rfl, _⟩ := h; rfl) | (obtain ⟨_, _, _, _, _, rfl, _⟩ := h; rfl) | (obtain ⟨_, _, _, _, _, _, rfl, _⟩ := h; rfl))
  intro f cdv A outer s H E hr
  have nd := sc_round_done.nd
  refine ⟨_, (ss_cons (s_par3 5 6 7 rfl nd (a_cons q_non (a_cons (q_lstM a_nil) (a_cons (q_tup (a_cons (q_var 1) (a_cons (q_var 2) a_nil))) a_nil))) rfl)
      (ss_cons (s_for PassesOwn.never rfl (i_enumT rfl (T.free "enumerate" (by simp)) (a_cons (q_fld (He.ga K "Rule") ["first", "rows", "modes"] 1 T.rule.cl (T.rule.na _ (by simp)) (q_var 0)) a_nil)) (g_tup rfl (gs_cons (g_name (i := 8) nd rfl (.inl rfl)) (gs_cons (g_name (i := 9) nd rfl (.inl rfl)) gs_nil))) (ss_cons (s_set 10 nd (q_if (t_eq (q_fld (He.ga K "Row") ["mode", "pick", "move", "then", "also"] 0 T.row.cl (T.row.na _ (by simp)) (q_var 9)) (q_var 1)) (q_call G_granted_by (hr.mono (by decide)) rfl (a_cons (q_var 9) (a_cons (q_var 2) (a_cons (q_var 3) (a_cons (q_var 4) a_nil))))) q_non))
      (ss_one (s_if (t_w (w_and (t_notN (q_var 10)) (w_and1 (t_isN (q_var 5))))) (ss_cons (s_par 5 7 rfl nd (a_cons (q_var 8) (a_cons (q_tup (a_cons (q_fld (He.ga K "Row") ["mode", "pick", "move", "then", "also"] 3 T.row.cl (T.row.na _ (by simp)) (q_var 9)) (a_cons (q_call G_pointer_behind (hr.mono (by decide)) rfl (a_cons (q_var 9) (a_cons (q_var 2) (a_cons (q_var 10) a_nil)))) a_nil))) a_nil)) rfl)
      (ss_one (s_expr (q_lm PySem.F.plainAttrs_list PySem.F.slot_list_append PySem.F.type_list_append mt_append simLm_app lmApp_mono (q_var 6) (a_cons (q_var 10) a_nil))))) (ss_one (s_if (t_w (w_and (t_notN (q_var 10)) (w_and1 (t_val (q_fld (He.ga K "Row") ["mode", "pick", "move", "then", "also"] 4 T.row.cl (T.row.na _ (by simp)) (q_var 9)))))) (ss_one (s_expr (q_lm PySem.F.plainAttrs_list PySem.F.slot_list_append PySem.F.type_list_append mt_append simLm_app lmApp_mono (q_var 6) (a_cons (q_var 10) a_nil)))) ss_nil))))))
      (ss_frz 6 (ss_one (s_ret (q_tup (a_cons (q_var 5) (a_cons (q_cty call_tuple_of sim_tuple rfl (T.free "tuple" (by simp)) (by decide +kernel) (a_cons (q_sortSet rfl rfl (T.free "sorted" (by simp)) rfl (T.free "set" (by simp)) (q_lc (own := [("asker", 11)]) (blk1 11) rfl nd (blkOk_by (own := [("asker", 11)]) (by kernel_rfl)) (i_list (q_var 6)) (fun _ _ _ _ _ => (pg_name (i := 11) nd rfl (.inl rfl))) (fun _ _ _ _ _ => ts_nil) (fun _ _ _ _ _ => (q_cty call_int1 sim_int rfl (T.free "int" (by simp)) (by decide +kernel) (a_cons (q_var 11) a_nil))))) a_nil)) (a_cons (q_ix (q_var 7) q_int) (a_cons (q_ix (q_var 7) q_int) a_nil)))))))))), ?_⟩
  clear hr nd F hm
  rintro _ μ Φ ⟨R, md, s0, n, A', rfl, hl, h⟩
  (conv => whnf)
  intro l hl0
  (conv => whnf)
  refine ⟨rfl, rfl, ?_⟩
  (conv => whnf)
  refine ⟨fun i ρ μ' => ∃ c : Acc, (∀ a, a ≠ l → μ' a = μ a) ∧ μ' l = some (.lst (intsD c.grs)) ∧ c.grs.length ≤ i ∧ rdM s0 n A' (R.rows.drop i) i c = roundM R.rows s0 n A' ∧
    ∃ d8 d9 d10 d11, ρ = [some (ruleD K R md), some (dS s0.1), some (pD s0.2), some (dI (n : Int)), some (tupI A'), some (pD c.done), some (dR l), some (.tup [dS c.beh.1, pD c.beh.2]), d8, d9, d10, d11],
    ⟨⟨none, [], s0⟩, fun a ha => mup_ne ha, mup_same, Nat.le_refl 0, rfl, _, _, _, _, rfl⟩, ?_, ?_⟩
  · rintro i x ρ μ' hx ⟨c, hm, hml, hcl, hcc, d8, d9, d10, d11, rfl⟩
    obtain ⟨r, hr, rfl⟩ := enum_get hx
    rw [drop_get hr] at hcc
    have hcc : rdM s0 n A' (R.rows.drop (i + 1)) (i + 1) (accM s0 n A' i r c) = roundM R.rows s0 n A' := hcc
    have hi := (List.getElem?_eq_some_iff.mp hr).1
    have hle := accM_le (s := s0) (n := n) (A := A') (r := r) hcl
    (conv => whnf)
    refine ⟨rfl, rfl, ?_⟩
    (conv => whnf)
    refine ⟨rfl, fun hm1 => ?_, fun hm1 => ?_⟩
    · have hmode : r.mode = s0.1 := by
        have := of_decide_eq_true hm1
        exact V.str.inj this
      have hit : hitM r s0 n A' = grM r s0.2 n A' := by unfold hitM; rw [if_pos hmode]
      (conv => whnf)
      refine ⟨r, s0.2, n, A', rfl, ?_⟩
      cases hg : grM r s0.2 n A' with
      | none =>
        have e : accM s0 n A' i r c = c := by unfold accM; rw [hit, hg]
        rw [e] at hcc hle
        ((repeat' ((conv => whnf) <;> first | refine And.intro rfl ?_ | (refine And.intro (fun hc => ?_) (fun hc => ?_) <;> first | (exact (tf_ hc).elim) | (exact (ft_ hc).elim) | skip) | refine @Exists.intro Mu _ _ (And.intro (fun _ _ e => e) ?_) | refine @Exists.intro (List V) _ _ (And.intro rfl ?_) | refine @Exists.intro PyData _ _ (And.intro rfl ?_))) <;> (try (conv => whnf)))
        exact ⟨c, hm, hml, hle, hcc, _, _, _, _, rfl⟩
      | some g =>
        have gl : ∀ gs : List Nat, (intsD (gs ++ [g])) = intsD gs ++ [dI (g : Int)] := fun gs => by simp [intsD]
        have hlen : (intsD c.grs).length ≤ 100000 := by rw [intsD_len]; omega
        cases hd : c.done with
        | none =>
          have e : accM s0 n A' i r c = ⟨some i, c.grs ++ [g], (r.thn, behM r s0.2 g)⟩ := by unfold accM; rw [hit, hg, hd]
          rw [e] at hcc hle
          ((repeat' ((conv => whnf) <;> first | refine And.intro rfl ?_ | (refine And.intro (fun hc => ?_) (fun hc => ?_) <;> first | (exact (tf_ hc).elim) | (exact (ft_ hc).elim) | skip) | refine @Exists.intro Mu _ _ (And.intro (fun _ _ e => e) ?_) | refine @Exists.intro (List V) _ _ (And.intro rfl ?_) | refine @Exists.intro PyData _ _ (And.intro rfl ?_))) <;> (try (conv => whnf)))
          · refine ⟨r, s0.2, g, rfl, ?_⟩
            (conv => whnf)
            refine ⟨⟨_, hml⟩, ?_⟩
            (conv => whnf)
            refine ⟨_, hml, ?_⟩
            (conv => whnf)
            refine lenOk.mk hlen ?_
            refine ⟨⟨some i, c.grs ++ [g], (r.thn, behM r s0.2 g)⟩, fun a ha => (mup_ne ha).trans (hm a ha), ?_, hle, hcc, _, _, _, _, rfl⟩
            rw [mup_same, gl] <;> rfl
          all_goals (first | exact (tf_ ‹_›).elim | exact (ft_ ‹_›).elim)
        | some j =>
          obtain ⟨cd, cg, cb⟩ := c
          cases hd
          ((repeat' ((conv => whnf) <;> first | refine And.intro rfl ?_ | (refine And.intro (fun hc => ?_) (fun hc => ?_) <;> first | (exact (tf_ hc).elim) | (exact (ft_ hc).elim) | skip) | refine @Exists.intro Mu _ _ (And.intro (fun _ _ e => e) ?_) | refine @Exists.intro (List V) _ _ (And.intro rfl ?_) | refine @Exists.intro PyData _ _ (And.intro rfl ?_))) <;> (try (conv => whnf)))
          · have e : accM s0 n A' i r ⟨some j, cg, cb⟩ = ⟨some j, cg ++ [g], cb⟩ := by unfold accM; rw [hit, hg]; exact if_pos ‹r.also = true›
            rw [e] at hcc hle
            refine ⟨⟨_, hml⟩, ?_⟩
            (conv => whnf)
            refine ⟨_, hml, ?_⟩
            (conv => whnf)
            refine lenOk.mk hlen ?_
            refine ⟨⟨some j, cg ++ [g], cb⟩, fun a ha => (mup_ne ha).trans (hm a ha), ?_, hle, hcc, _, _, _, _, rfl⟩
            rw [mup_same, gl] <;> rfl
          · have hal : r.also = false := ‹r.also = false›
            have e : accM s0 n A' i r ⟨some j, cg, cb⟩ = ⟨some j, cg, cb⟩ := by unfold accM; rw [hit, hg]; exact if_neg (by rw [hal]; decide)
            rw [e] at hcc hle
            exact ⟨⟨some j, cg, cb⟩, hm, hml, hle, hcc, _, _, _, _, rfl⟩
          all_goals (first | exact (tf_ ‹_›).elim | exact (ft_ ‹_›).elim)
    · have hmode : ¬ r.mode = s0.1 := fun z => by
        have := of_decide_eq_false hm1
        exact this (congrArg V.str z)
      have hit : hitM r s0 n A' = none := by unfold hitM; rw [if_neg hmode]
      have e : accM s0 n A' i r c = c := by unfold accM; rw [hit]
      rw [e] at hcc hle
      ((repeat' ((conv => whnf) <;> first | refine And.intro rfl ?_ | (refine And.intro (fun hc => ?_) (fun hc => ?_) <;> first | (exact (tf_ hc).elim) | (exact (ft_ hc).elim) | skip) | refine @Exists.intro Mu _ _ (And.intro (fun _ _ e => e) ?_) | refine @Exists.intro (List V) _ _ (And.intro rfl ?_) | refine @Exists.intro PyData _ _ (And.intro rfl ?_))) <;> (try (conv => whnf)))
      exact ⟨c, hm, hml, hle, hcc, _, _, _, _, rfl⟩
  · rintro ρ μ' ⟨c, hm, hml, hcl, hcc, d8, d9, d10, d11, rfl⟩
    rw [List.drop_eq_nil_of_le (by rw [enumD_len, List.length_map]; exact Nat.le_refl _)] at hcc
    have hcc : c = roundM R.rows s0 n A' := hcc
    have hlt : c.grs.length < 64 := by
      rw [enumD_len, List.length_map] at hcl; omega
    subst hcc
    (conv => whnf)
    refine ⟨l, _, rfl, hml, hl0, ?_⟩
    (conv => whnf)
    refine LcD.map id (by rw [intsD_len]; omega) ?_ ?_
    · intro i x hx
      obtain ⟨a, ha, rfl⟩ := intsD_get hx
      exact ⟨_, rfl, fun Ψ hΨ => hΨ⟩
    · (conv => whnf)
      refine ⟨(roundM R.rows s0 n A').grs.map fun (a : Nat) => (a : Int), by rw [List.map_id, intsI], by rw [List.length_map]; exact hlt, ?_⟩
      intro ms o m
      obtain ⟨gs, e1, e2, e3⟩ := sorts_nat m o
      (conv => whnf)
      refine ⟨μ, fun a u e => ?_, ?_⟩
      · have ne : a ≠ l := fun z => by rw [z, hl0] at e; cases e
        rw [mdel_ne ne, hm a ne]; exact e
      · rw [e1]
        exact h gs ⟨e3, e2⟩
end
end K3
set_option Elab.async false
set_option linter.all false
set_option maxRecDepth 100000
set_option maxHeartbeats 800000
/-! KG4: a play. -/
namespace K3
open PySem PySem.Spec PyProof.Rows L2
/-- rounds played from a state: what was granted, where it ends -/
inductive RunM (rows : List RowM) (n : Nat) (s0 : StM) : List (List Nat) → List (List Nat) → StM → Prop
  | nil : RunM rows n s0 [] [] s0
  | snoc {As gss : List (List Nat)} {s : StM} {A A' gs : List Nat} (h : RunM rows n s0 As gss s) (hA : SrtOf A A') (hn : ∀ a ∈ A', a < n) (hg : SrtOf (roundM rows s n A').grs gs) : RunM rows n s0 (As ++ [A]) (gss ++ [gs]) (roundM rows s n A').beh
theorem atI_last {xs : List D} {x : D} : atI (xs ++ [x]) (-1) = some x := by
  have e : ixN (xs ++ [x]).length (-1) = some xs.length := by
    unfold ixN
    have h : (xs ++ [x]).length = xs.length + 1 := by simp
    rw [h]
    have h1 : ¬ (0 : Int) ≤ -1 := by decide
    simp only [h1, if_false]
    split
    · congr 1; omega
    · exfalso; rename_i z; omega
  unfold atI
  rw [e]
  show (xs ++ [x])[xs.length]? = some x
  simp
section
variable {P : Program} {w : World} {K : PySem.W.Frag} {mg : Str → Option Value} {base : Heap}
def S_play (K : PySem.W.Frag) : DSp := fun xs μ Φ => ∃ (R : RuleM) (md : D) (n : Nat) (b : Bool) (As : List (Bool × List Nat)), xs = [ruleD K R md, dI (n : Int), sqD b (As.map RdD)] ∧ AskOk n As ∧ R.rows.length < 60 ∧
  ∀ gss s d1 d2 d3 d4, RunM R.rows n (R.first, none) (As.map (·.2)) gss s → Φ (.ob (He.ga K "Played") LPlayed [.tup (gss.map tupI), d1, d2, d3, d4]) μ
theorem sc_play : FnScope ["rule", "askers", "rounds", "played", "faults", "asking", "told", "fault"] ["rule", "askers", "rounds"] (defScope (top 38)) := ⟨rfl, rfl, rfl, by decide +kernel, rfl, by decide +kernel, by decide +kernel⟩
theorem G_play (T : TF w K mg) (F : FnP K "play" "play" (top 38) (He.ga K "play")) (hm : mg "play" = some (.ref (He.ga K "play"))) (G_Played___init__ : MakeG P w K mg base (He.ga K "Played") ["self", "first"] 1 ((S_Played K))) (G_faults_in : FnG P w K mg base "faults_in" ["asking", "grants"] 1 (S_faults_in)) (G_good_rounds : FnG P w K mg base "good_rounds" ["askers", "rounds"] 3 (S_good_rounds)) (G_round_done : FnG P w K mg base "round_done" ["rule", "mode", "pointer", "askers", "asking"] 3 ((S_round_done K))) : FnG P w K mg base "play" ["rule", "askers", "rounds"] 4 ((S_play K)) := by
  refine fnG_of F hm sc_play (fun _ _ _ _ _ _ us hl => match us, hl with | [_, _, _], _ => rfl) ?_ ?_
  · (intro ds μ Φ h; first | (obtain ⟨_, rfl, _⟩ := h; rfl) | (obtain ⟨_, _, rfl, _⟩ := h; rfl) | (obtain ⟨_, _, _, rfl, _⟩ := h; rfl) | (obtain ⟨_, _, _, _, rfl, _⟩ := h; rfl) | (obtain ⟨_, _, _, _, _, rfl, _⟩ := h; rfl) | (obtain ⟨_, _, _, _, _, _, rfl, _⟩ := h; rfl))
  intro f cdv A outer s H E hr
  have nd := sc_play.nd
  refine ⟨_, (ss_cons (s_par 3 4 rfl nd (a_cons (q_make G_Played___init__ (hr.mono (by decide)) rfl T.played.g (a_cons (q_fld (He.ga K "Rule") ["first", "rows", "modes"] 0 T.rule.cl (T.rule.na _ (by simp)) (q_var 0)) a_nil)) (a_cons (q_lstM a_nil) a_nil)) rfl)
      (ss_cons (s_for PassesOwn.never rfl (i_list (q_call G_good_rounds (hr.mono (by decide)) rfl (a_cons (q_var 1) (a_cons (q_var 2) a_nil)))) (g_name (i := 5) nd rfl (.inl rfl)) (ss_cons (s_set 6 nd (q_call G_round_done (hr.mono (by decide)) rfl (a_cons (q_var 0) (a_cons (q_ix (q_fld (He.ga K "Played") ["grants", "done", "modes", "pointers", "faults"] 2 T.played.cl (T.played.na _ (by simp)) (q_var 3)) (q_un un_neg sim_neg q_int)) (a_cons (q_ix (q_fld (He.ga K "Played") ["grants", "done", "modes", "pointers", "faults"] 3 T.played.cl (T.played.na _ (by simp)) (q_var 3)) (q_un un_neg sim_neg q_int)) (a_cons (q_var 1) (a_cons (q_var 5) a_nil)))))))
      (ss_cons (s_expr (q_ext (q_var 4) (a_cons (q_call G_faults_in (hr.mono (by decide)) rfl (a_cons (q_var 5) (a_cons (q_ix (q_var 6) q_int) a_nil))) a_nil)))
      (ss_cons (s_fldSet (He.ga K "Played") ["grants", "done", "modes", "pointers", "faults"] 1 T.played.cl (T.played.na _ (by simp)) (by decide) (q_tup (a_star (q_fld (He.ga K "Played") ["grants", "done", "modes", "pointers", "faults"] 1 T.played.cl (T.played.na _ (by simp)) (q_var 3)) (a_cons (q_ix (q_var 6) q_int) a_nil))) (q_var 3))
      (ss_cons (s_fldSet (He.ga K "Played") ["grants", "done", "modes", "pointers", "faults"] 0 T.played.cl (T.played.na _ (by simp)) (by decide) (q_tup (a_star (q_fld (He.ga K "Played") ["grants", "done", "modes", "pointers", "faults"] 0 T.played.cl (T.played.na _ (by simp)) (q_var 3)) (a_cons (q_ix (q_var 6) q_int) a_nil))) (q_var 3))
      (ss_cons (s_fldSet (He.ga K "Played") ["grants", "done", "modes", "pointers", "faults"] 2 T.played.cl (T.played.na _ (by simp)) (by decide) (q_tup (a_star (q_fld (He.ga K "Played") ["grants", "done", "modes", "pointers", "faults"] 2 T.played.cl (T.played.na _ (by simp)) (q_var 3)) (a_cons (q_ix (q_var 6) q_int) a_nil))) (q_var 3))
      (ss_one (s_fldSet (He.ga K "Played") ["grants", "done", "modes", "pointers", "faults"] 3 T.played.cl (T.played.na _ (by simp)) (by decide) (q_tup (a_star (q_fld (He.ga K "Played") ["grants", "done", "modes", "pointers", "faults"] 3 T.played.cl (T.played.na _ (by simp)) (q_var 3)) (a_cons (q_ix (q_var 6) q_int) a_nil))) (q_var 3)))))))))
      (ss_frz 4 (ss_cons (s_fldSet (He.ga K "Played") ["grants", "done", "modes", "pointers", "faults"] 4 T.played.cl (T.played.na _ (by simp)) (by decide) (q_cty call_tuple_of sim_tuple rfl (T.free "tuple" (by simp)) (by decide +kernel) (a_cons (q_sortTx rfl rfl (T.free "sorted" (by simp)) rfl (T.free "set" (by simp)) (q_lc (own := [("fault", 7)]) (blk1 7) rfl nd (blkOk_by (own := [("fault", 7)]) (by kernel_rfl)) (i_list (q_var 4)) (fun _ _ _ _ _ => (pg_name (i := 7) nd rfl (.inl rfl))) (fun _ _ _ _ _ => ts_nil) (fun _ _ _ _ _ => (q_cty SkE.call_str_str sim_str rfl (T.free "str" (by simp)) (by decide +kernel) (a_cons (q_var 7) a_nil))))) a_nil)) (q_var 3))
      (ss_one (s_retF (q_var 3))))))), ?_⟩
  clear hr nd F hm
  rintro _ μ Φ ⟨R, md, n, b, As, rfl, hok, hrl, h⟩
  (conv => whnf)
  refine ⟨rfl, rfl, ?_⟩
  (conv => whnf)
  intro p hp
  refine ⟨p, R.first, rfl, mup_same, fun μ1 hm1 hp1 => ⟨rfl, ?_⟩⟩
  (conv => whnf)
  intro l hl
  have nlp : l ≠ p := fun z => by rw [z, hp1] at hl; cases hl
  have hl0 : μ l = none := by
    have := hm1 l nlp
    rw [mup_ne nlp] at this
    rw [← this]; exact hl
  (conv => whnf)
  refine ⟨n, b, As, rfl, hok, fun Bs hBs => ?_⟩
  (conv => whnf)
  refine ⟨fun i ρ μ' => ∃ gss s ds ms ps fs, (∀ a o, μ a = some o → μ' a = some o) ∧ μ' p = some (.ob (He.ga K "Played") LPlayed [.tup (gss.map tupI), .tup ds, .tup (ms ++ [dS s.1]), .tup (ps ++ [pD s.2]), .tup []]) ∧ μ' l = some (.lst (fs.map dS)) ∧ (fs : List Str).length ≤ i ∧
    gss.length = i ∧ ds.length = i ∧ ms.length = i ∧ ps.length = i ∧ RunM R.rows n (R.first, none) ((As.take i).map (·.2)) gss s ∧ ∃ d5 d6 d7, ρ = [some (ruleD K R md), some (dI (n : Int)), some (sqD b (As.map RdD)), some (dR p), some (dR l), d5, d6, d7],
    ⟨[], (R.first, none), [], [], [], [], fun a o e => ?_, ?_, mup_same, Nat.le_refl _, rfl, rfl, rfl, rfl, .nil, _, _, _, rfl⟩, ?_, ?_⟩
  · have h1 : a ≠ p := fun z => by rw [z, hp] at e; cases e
    have h2 : a ≠ l := fun z => by rw [z, hl0] at e; cases e
    rw [mup_ne h2, hm1 a h1, mup_ne h1]; exact e
  · rw [mup_ne nlp.symm]; exact hp1
  · rintro i x ρ μ' hx ⟨gss, s, ds, ms, ps, fs, hm, hmp, hml, hfl, hgl, hdl, hmsl, hpsl, hrun, d5, d6, d7, rfl⟩
    have hx' : ∃ B, Bs[i]? = some B ∧ x = tupI B := by
      rw [List.getElem?_map] at hx
      cases q : Bs[i]? with
      | none => rw [q] at hx; cases hx
      | some a => rw [q] at hx; cases hx; exact ⟨a, rfl, rfl⟩
    obtain ⟨B, hB, rfl⟩ := hx'
    have hiB := (List.getElem?_eq_some_iff.mp hB).1
    have hiA : i < As.length := by rw [← hBs.1]; exact hiB
    have hA : As[i]? = some As[i] := List.getElem?_eq_getElem hiA
    have hS := hBs.2 i _ _ hA hB
    have hn := (hok.2 _ (List.getElem_mem hiA)).2.2
    have hi1000 : i < 900 := Nat.lt_of_lt_of_le hiA hok.1
    (conv => whnf)
    refine ⟨_, hmp, ?_⟩
    (conv => whnf)
    split
    case h_2 e => exact nomatch (atI_last.symm.trans e)
    rename_i d e
    cases (atI_last.symm.trans e)
    (conv => whnf)
    refine ⟨_, hmp, ?_⟩
    (conv => whnf)
    split
    case h_2 e => exact nomatch (atI_last.symm.trans e)
    rename_i d e
    cases (atI_last.symm.trans e)
    (conv => whnf)
    refine ⟨R, md, s, n, B, rfl, hrl, fun gs hgs => ?_⟩
    (conv => whnf)
    refine ⟨⟨_, hml⟩, ?_⟩
    (conv => whnf)
    refine ⟨B, gs, rfl, fun l2 f2 hl2 hf2 => ?_⟩
    have n2 : l2 ≠ l := fun z => by rw [z, hml] at hl2; cases hl2
    (conv => whnf)
    refine ⟨_, _, (mup_ne n2.symm).trans hml, mup_same, ?_⟩
    refine lenOk.mk (by simp; omega) ?_
    have np2 : l2 ≠ p := fun z => by rw [z, hmp] at hl2; cases hl2
    (conv => whnf)
    refine ⟨_, (mup_ne nlp.symm).trans ((mup_ne np2.symm).trans hmp), ?_⟩
    (conv => whnf)
    refine lenOk.mk (by simp; omega) ?_
    (conv => whnf)
    refine ⟨_, (mup_ne nlp.symm).trans ((mup_ne np2.symm).trans hmp), ?_⟩
    (conv => whnf)
    refine ⟨_, mup_same, ?_⟩
    (conv => whnf)
    refine lenOk.mk (by simp; omega) ?_
    (conv => whnf)
    refine ⟨_, mup_same, ?_⟩
    (conv => whnf)
    refine ⟨_, mup_same, ?_⟩
    (conv => whnf)
    refine lenOk.mk (by simp; omega) ?_
    (conv => whnf)
    refine ⟨_, mup_same, ?_⟩
    (conv => whnf)
    refine ⟨_, mup_same, ?_⟩
    (conv => whnf)
    refine lenOk.mk (by simp; omega) ?_
    (conv => whnf)
    refine ⟨_, mup_same, ?_⟩
    refine ⟨gss ++ [gs], (roundM R.rows s n B).beh, ds ++ [pD (roundM R.rows s n B).done], ms ++ [dS s.1], ps ++ [pD s.2], fs ++ f2, fun a o e => ?_, ?_, ?_, ?_, ?_, ?_, ?_, ?_, ?_, _, _, _, rfl⟩
    · have h1 : a ≠ p := fun z => by rw [z, hp] at e; cases e
      have h2 : a ≠ l := fun z => by rw [z, hl0] at e; cases e
      have h3 : a ≠ l2 := fun z => by
        have := hm a o e
        rw [z, hl2] at this; cases this
      rw [mup_ne h1, mup_ne h1, mup_ne h1, mup_ne h1, mup_ne h2, mup_ne h3]
      exact hm a o e
    · rw [mup_same]
      simp [tupI]
    · rw [mup_ne nlp, mup_ne nlp, mup_ne nlp, mup_ne nlp, mup_same, List.map_append]
    · simp; omega
    · simp; omega
    · simp; omega
    · simp; omega
    · simp; omega
    · rw [take_get hA, List.map_append]
      exact .snoc hrun hS (fun a ha => hn a ((hS.2 a).mp ha)) hgs
  · rintro ρ μ' ⟨gss, s, ds, ms, ps, fs, hm, hmp, hml, hfl, hgl, hdl, hmsl, hpsl, hrun, d5, d6, d7, rfl⟩
    have hBl : (Bs.map tupI).length = As.length := by rw [List.length_map, hBs.1]
    rw [hBl] at hfl hrun
    have hok1 := hok.1
    rw [List.take_of_length_le (Nat.le_refl _)] at hrun
    (conv => whnf)
    refine ⟨l, _, rfl, hml, hl0, ?_⟩
    (conv => whnf)
    refine LcD.map id (by simp; omega) ?_ ?_
    · intro i x hx
      rw [List.getElem?_map] at hx
      cases q : fs[i]? with
      | none => rw [q] at hx; cases hx
      | some a => rw [q] at hx; cases hx; exact ⟨_, rfl, fun Ψ hΨ => hΨ⟩
    · (conv => whnf)
      refine ⟨fs, List.map_id _, by omega, fun ys _ => ?_⟩
      (conv => whnf)
      refine ⟨_, (mdel_ne nlp.symm).trans hmp, ?_⟩
      (conv => whnf)
      refine ⟨p, _, rfl, mup_same, hp, ?_⟩
      refine ⟨μ, fun a o e => ?_, ?_⟩
      · have h1 : a ≠ p := fun z => by rw [z, hp] at e; cases e
        have h2 : a ≠ l := fun z => by rw [z, hl0] at e; cases e
        rw [mdel_ne h1, mup_ne h1, mdel_ne h2]
        exact hm a o e
      · exact h gss s _ _ _ _ hrun
def S_RuleCall (K : PySem.W.Frag) : DSp := fun xs μ Φ => ∃ (R : RuleM) (md : D) (n : Nat) (b : Bool) (As : List (Bool × List Nat)), xs = [ruleD K R md, dI (n : Int), sqD b (As.map RdD)] ∧ AskOk n As ∧ R.rows.length < 60 ∧
  ∀ gss s, RunM R.rows n (R.first, none) (As.map (·.2)) gss s → Φ (.tup (gss.map tupI)) μ
theorem sc_Rule___call__ : FnScope ["self", "askers", "rounds"] ["self", "askers", "rounds"] (defScope (inClass (top 54) 5)) := ⟨rfl, rfl, rfl, by decide +kernel, rfl, by decide +kernel, by decide +kernel⟩
theorem B_Rule___call__ (T : TF w K mg) (G_play : FnG P w K mg base "play" ["rule", "askers", "rounds"] 4 ((S_play K))) : ∀ {f : Addr} {cdv : Value} {A : Around} {outer : List Env} {s : Shared} {H : Hp} {E : XK}, Room 4 (A.deeper (envOfC "Rule.__call__" (defScope (inClass (top 54) 5)) s.heap.objs.size f cdv)) → ∃ ds, QSs (cxOf CX0 P w K mg base ["self", "askers", "rounds"] "Rule.__call__" (defScope (inClass (top 54) 5)) f cdv A outer s H E).nox (defBody (inClass (top 54) 5)) ds ∧ ∀ args μ Φ, ((S_RuleCall K) : DSp) args μ Φ → ds (endD μ Φ) (startD (["self", "askers", "rounds"] : List Str).length args) μ := by
  intro f cdv A outer s H E hr
  have nd := sc_Rule___call__.nd
  refine ⟨_, (ss_one (s_ret (q_fld (He.ga K "Played") ["grants", "done", "modes", "pointers", "faults"] 0 T.played.cl (T.played.na _ (by simp)) (q_call G_play (hr.mono (by decide)) rfl (a_cons (q_var 0) (a_cons (q_var 1) (a_cons (q_var 2) a_nil))))))), ?_⟩
  rintro _ μ Φ ⟨R, md, n, b, As, rfl, hok, hrl, h⟩
  (conv => whnf)
  refine ⟨R, md, n, b, As, rfl, hok, hrl, fun gss s d1 d2 d3 d4 hr => ?_⟩
  (conv => whnf)
  refine ⟨rfl, rfl, ?_⟩
  (conv => whnf)
  exact ⟨_, fun _ _ e => e, h gss s hr⟩
end
end K3
set_option Elab.async false
set_option linter.all false
set_option maxRecDepth 100000
set_option maxHeartbeats 800000
/-! KM1: what a round is, in plain terms; states as keys. -/
namespace K3
open PySem PySem.Spec PyProof.Rows L2

/-! ### a round -/
theorem rdM_skip {s : StM} {n : Nat} {A : List Nat} : ∀ (pre post : List RowM) (i : Nat) (c : Acc), (∀ r ∈ pre, hitM r s n A = none) → rdM s n A (pre ++ post) i c = rdM s n A post (i + pre.length) c
  | [], post, i, c, _ => rfl
  | r :: pre, post, i, c, h => by
    have e : accM s n A i r c = c := by unfold accM; rw [h r List.mem_cons_self]
    show rdM s n A (pre ++ post) (i + 1) (accM s n A i r c) = _
    rw [e, rdM_skip pre post (i + 1) c fun r' h' => h r' (List.mem_cons_of_mem _ h'), List.length_cons]
    congr 1; omega
def alsoM (s : StM) (n : Nat) (A : List Nat) (rows : List RowM) : List Nat := rows.filterMap fun r => if r.also then hitM r s n A else none
theorem rdM_also {s : StM} {n : Nat} {A : List Nat} : ∀ (post : List RowM) (i j : Nat) (gs : List Nat) (b : StM), rdM s n A post i ⟨some j, gs, b⟩ = ⟨some j, gs ++ alsoM s n A post, b⟩
  | [], i, j, gs, b => by simp [rdM, alsoM]
  | r :: post, i, j, gs, b => by
    show rdM s n A post (i + 1) (accM s n A i r ⟨some j, gs, b⟩) = _
    cases h : hitM r s n A with
    | none =>
      have e : accM s n A i r ⟨some j, gs, b⟩ = ⟨some j, gs, b⟩ := by unfold accM; rw [h]
      rw [e, rdM_also post (i + 1) j gs b]
      simp [alsoM, h]
    | some g =>
      cases ha : r.also with
      | true =>
        have e : accM s n A i r ⟨some j, gs, b⟩ = ⟨some j, gs ++ [g], b⟩ := by unfold accM; rw [h]; exact if_pos ha
        rw [e, rdM_also post (i + 1) j _ b]
        simp [alsoM, h, ha]
      | false =>
        have e : accM s n A i r ⟨some j, gs, b⟩ = ⟨some j, gs, b⟩ := by unfold accM; rw [h]; exact if_neg (by rw [ha]; decide)
        rw [e, rdM_also post (i + 1) j gs b]
        simp [alsoM, ha]
theorem first_hit (s : StM) (n : Nat) (A : List Nat) : ∀ (rows : List RowM), (∀ r ∈ rows, hitM r s n A = none) ∨ ∃ pre r post g, rows = pre ++ r :: post ∧ (∀ r' ∈ pre, hitM r' s n A = none) ∧ hitM r s n A = some g
  | [] => .inl fun r h => by cases h
  | r :: rows => by
    cases h : hitM r s n A with
    | some g => exact .inr ⟨[], r, rows, g, rfl, (fun r' h' => nomatch h'), h⟩
    | none =>
      rcases first_hit s n A rows with h1 | ⟨pre, r', post, g, e, h1, h2⟩
      · exact .inl fun r' h' => by
          rcases List.mem_cons.mp h' with rfl | h'
          · exact h
          · exact h1 r' h'
      · refine .inr ⟨r :: pre, r', post, g, by rw [e] <;> rfl, fun r'' h' => ?_, h2⟩
        rcases List.mem_cons.mp h' with rfl | h'
        · exact h
        · exact h1 r'' h'
theorem round_none {rows : List RowM} {s : StM} {n : Nat} {A : List Nat} (h : ∀ r ∈ rows, hitM r s n A = none) : roundM rows s n A = ⟨none, [], s⟩ := by
  unfold roundM
  have := rdM_skip (s := s) (n := n) (A := A) rows [] 0 ⟨none, [], s⟩ h
  rw [List.append_nil] at this
  rw [this] <;> rfl
theorem round_some {pre post : List RowM} {r : RowM} {s : StM} {n g : Nat} {A : List Nat} (h : ∀ r' ∈ pre, hitM r' s n A = none) (hr : hitM r s n A = some g) : roundM (pre ++ r :: post) s n A = ⟨some pre.length, g :: alsoM s n A post, (r.thn, behM r s.2 g)⟩ := by
  unfold roundM
  rw [rdM_skip pre (r :: post) 0 _ h]
  show rdM s n A post _ (accM s n A _ r ⟨none, [], s⟩) = _
  have e : accM s n A (0 + pre.length) r ⟨none, [], s⟩ = ⟨some (0 + pre.length), [g], (r.thn, behM r s.2 g)⟩ := by unfold accM; rw [hr] <;> rfl
  rw [e, rdM_also, Nat.zero_add] <;> rfl
/-! ### states -/
def pL (p : Option Nat) : Leaf := match p with | none => .none | some i => .num (i : Int)
def stK (s : StM) : List Leaf := [.text s.1, pL s.2]
def stD (s : StM) : D := .tup [dS s.1, pD s.2]
theorem leaf_pL (p : Option Nat) : leafD (pL p) = pD p := by cases p <;> rfl
theorem stK_D (s : StM) : keyD (stK s) = stD s := by
  show D.tup [leafD (.text s.1), leafD (pL s.2)] = _
  rw [leaf_pL] <;> rfl
theorem pL_inj {p q : Option Nat} (h : pL p = pL q) : p = q := by
  cases p <;> cases q <;> simp [pL] at h <;> simp_all <;> omega
theorem stK_inj {s t : StM} (h : stK s = stK t) : s = t := by
  unfold stK at h
  simp at h
  exact Prod.ext h.1 (pL_inj h.2)
section
variable {α : Type}
def dctS (f : α → D) (xs : List (StM × α)) : List (List Leaf × D) := xs.map fun q => (stK q.1, f q.2)
def lookS (xs : List (StM × α)) (s : StM) : Option α := (xs.find? fun q => decide (q.1 = s)).map (·.2)
def keysS (xs : List (StM × α)) : List StM := xs.map (·.1)
theorem lookD_S (f : α → D) (s : StM) : ∀ xs : List (StM × α), lookD (dctS f xs) (stK s) = (lookS xs s).map f
  | [] => rfl
  | q :: xs => by
    unfold lookD dctS lookS
    rw [List.map_cons, List.find?_cons, List.find?_cons]
    by_cases h : q.1 = s
    · have h2 : stK q.1 = stK s := by rw [h]
      simp only [h, decide_true]; rfl
    · have h2 : ¬ stK q.1 = stK s := fun z => h (stK_inj z)
      simp only [h, h2, decide_false]
      exact lookD_S f s xs
theorem lookS_mem {xs : List (StM × α)} {s : StM} {a : α} (h : lookS xs s = some a) : (s, a) ∈ xs := by
  unfold lookS at h
  cases e : xs.find? fun q => decide (q.1 = s) with
  | none => rw [e] at h; cases h
  | some q =>
    rw [e] at h; cases h
    have := List.find?_some e
    have h1 := List.mem_of_find?_eq_some e
    rw [← of_decide_eq_true this]; exact h1
theorem lookS_none {xs : List (StM × α)} {s : StM} : lookS xs s = none ↔ s ∉ keysS xs := by
  unfold lookS keysS
  rw [Option.map_eq_none_iff, List.find?_eq_none]
  constructor
  · intro h m
    obtain ⟨q, h1, h2⟩ := List.mem_map.mp m
    exact h q h1 (by simp [h2])
  · intro h q hq z
    exact h (List.mem_map.mpr ⟨q, hq, of_decide_eq_true z⟩)
theorem lookS_some {xs : List (StM × α)} {s : StM} (h : s ∈ keysS xs) : ∃ a, lookS xs s = some a := by
  cases e : lookS xs s with
  | none => exact absurd h (lookS_none.mp e)
  | some a => exact ⟨a, rfl⟩
theorem lookS_of_mem {xs : List (StM × α)} {s : StM} {a : α} (nd : (keysS xs).Nodup) (h : (s, a) ∈ xs) : lookS xs s = some a := by
  induction xs with
  | nil => cases h
  | cons q xs ih =>
    have nd' : (q.1 :: keysS xs).Nodup := nd
    obtain ⟨n1, n2⟩ := List.nodup_cons.mp nd'
    unfold lookS
    rw [List.find?_cons]
    rcases List.mem_cons.mp h with rfl | h
    · simp
    · have ne : ¬ q.1 = s := fun z => n1 (by rw [z]; exact List.mem_map.mpr ⟨_, h, rfl⟩)
      simp only [ne, decide_false]
      exact ih n2 h
theorem keyS_of_mem {xs : List (StM × α)} {q : StM × α} (h : q ∈ xs) : q.1 ∈ keysS xs := List.mem_map.mpr ⟨q, h, rfl⟩
def putS (xs : List (StM × α)) (s : StM) (a : α) : List (StM × α) := if (lookS xs s).isSome then xs.map (fun q => if q.1 = s then (q.1, a) else q) else xs ++ [(s, a)]
theorem putD_S (f : α → D) (s : StM) (a : α) (xs : List (StM × α)) : putD (dctS f xs) (stK s) (f a) = dctS f (putS xs s a) := by
  unfold putD putS
  rw [lookD_S]
  cases h : lookS xs s with
  | none => simp [dctS]
  | some b =>
    simp only [Option.map_some, Option.isSome_some, if_true]
    unfold dctS
    rw [List.map_map, List.map_map]
    refine List.map_congr_left fun q _ => ?_
    by_cases e : q.1 = s
    · simp [e]
    · have e2 : ¬ stK q.1 = stK s := fun z => e (stK_inj z)
      simp [e, e2]
theorem putS_new {xs : List (StM × α)} {s : StM} {a : α} (h : s ∉ keysS xs) : putS xs s a = xs ++ [(s, a)] := by
  unfold putS; rw [lookS_none.mpr h] <;> rfl
theorem keys_put {xs : List (StM × α)} {s : StM} {a : α} (h : s ∈ keysS xs) : keysS (putS xs s a) = keysS xs := by
  obtain ⟨b, e⟩ := lookS_some h
  unfold putS keysS
  rw [e]
  simp only [Option.isSome_some, if_true, List.map_map]
  refine List.map_congr_left fun q _ => ?_
  show (if q.1 = s then (q.1, a) else q).1 = q.1
  split <;> rfl
theorem look_put {xs : List (StM × α)} {s t : StM} {a : α} : lookS (putS xs s a) t = if t = s then some a else lookS xs t := by
  by_cases h : s ∈ keysS xs
  · obtain ⟨b, e⟩ := lookS_some h
    unfold putS
    rw [e]
    simp only [Option.isSome_some, if_true]
    clear e
    induction xs with
    | nil => cases h
    | cons q xs ih =>
      unfold lookS
      rw [List.map_cons, List.find?_cons, List.find?_cons]
      by_cases hq : q.1 = s
      · by_cases ht : t = s
        · subst ht; simp [hq]
        · have : ¬ s = t := fun z => ht z.symm
          simp only [hq, if_true, this, decide_false, ht, if_false]
          by_cases hs : s ∈ keysS xs
          · have := ih hs
            unfold lookS at this
            rw [this, if_neg ht]
          · have : xs.map (fun q => if q.1 = s then (q.1, a) else q) = xs := by
              conv => rhs; rw [← List.map_id xs]
              refine List.map_congr_left fun q' h' => ?_
              have : ¬ q'.1 = s := fun z => hs (by rw [← z]; exact keyS_of_mem h')
              simp [this]
            rw [this]
      · have hs : s ∈ keysS xs := by
          rcases List.mem_cons.mp (show s ∈ q.1 :: keysS xs from h) with z | z
          · exact absurd z.symm hq
          · exact z
        simp only [hq, if_false]
        by_cases ht : q.1 = t
        · have : ¬ t = s := fun z => hq (ht.trans z)
          simp [ht, this]
        · simp only [ht, decide_false]
          have := ih hs
          unfold lookS at this
          exact this
  · rw [putS_new h]
    unfold lookS
    rw [List.find?_append]
    by_cases ht : t = s
    · subst ht
      have := lookS_none.mpr h
      unfold lookS at this
      rw [Option.map_eq_none_iff] at this
      rw [this]; simp
    · have : ¬ s = t := fun z => ht z.symm
      rw [if_neg ht]
      cases xs.find? fun q => decide (q.1 = t) <;> simp [this]
end
theorem nodup_le {α : Type} [DecidableEq α] : ∀ {l m : List α}, l.Nodup → (∀ x ∈ l, x ∈ m) → l.length ≤ m.length
  | [], m, _, _ => Nat.zero_le _
  | x :: l, m, nd, h => by
    obtain ⟨n1, n2⟩ := List.nodup_cons.mp nd
    have hx := h x List.mem_cons_self
    have := nodup_le (l := l) (m := m.erase x) n2 fun y hy => by
      have ne : y ≠ x := fun z => n1 (by rw [← z]; exact hy)
      exact (List.mem_erase_of_ne ne).mpr (h y (List.mem_cons_of_mem _ hy))
    rw [List.length_erase_of_mem hx] at this
    have pos : 0 < m.length := List.length_pos_of_mem hx
    rw [List.length_cons]; omega
/-! ### all states there are -/
def univM (R : RuleM) (n : Nat) : List StM := (R.first :: R.rows.map (·.thn)).flatMap fun m => (none :: (List.range n).map some).map fun p => (m, p)
theorem mem_univ {R : RuleM} {n : Nat} {s : StM} : s ∈ univM R n ↔ (s.1 = R.first ∨ ∃ r ∈ R.rows, r.thn = s.1) ∧ (∀ i, s.2 = some i → i < n) := by
  unfold univM
  rw [List.mem_flatMap]
  obtain ⟨m, p⟩ := s
  constructor
  · rintro ⟨m', h1, h2⟩
    obtain ⟨p', h3, h4⟩ := List.mem_map.mp h2
    cases h4
    refine ⟨?_, ?_⟩
    · rcases List.mem_cons.mp h1 with h | h
      · exact .inl h
      · obtain ⟨r, a, b⟩ := List.mem_map.mp h; exact .inr ⟨r, a, b⟩
    · intro i hi
      have hi : p = some i := hi
      subst hi
      rcases List.mem_cons.mp h3 with h | h
      · cases h
      · obtain ⟨j, a, b⟩ := List.mem_map.mp h; cases b; exact List.mem_range.mp a
  · rintro ⟨h1, h2⟩
    refine ⟨m, ?_, List.mem_map.mpr ⟨p, ?_, rfl⟩⟩
    · rcases h1 with h | ⟨r, a, b⟩
      · exact List.mem_cons.mpr (.inl h)
      · exact List.mem_cons.mpr (.inr (List.mem_map.mpr ⟨r, a, b⟩))
    · cases p with
      | none => exact List.mem_cons_self
      | some i => exact List.mem_cons.mpr (.inr (List.mem_map.mpr ⟨i, List.mem_range.mpr (h2 i rfl), rfl⟩))
theorem univ_len (R : RuleM) (n : Nat) : (univM R n).length = (R.rows.length + 1) * (n + 1) := by
  unfold univM
  rw [List.length_flatMap]
  simp only [List.length_map, List.length_cons, List.length_range]
  rw [List.map_const', List.sum_replicate_nat]
  simp
theorem gr_mem {r : RowM} {p : Option Nat} {n g : Nat} {A : List Nat} (h : grM r p n A = some g) : g ∈ A := List.mem_of_find?_eq_some h
theorem hit_mem {r : RowM} {s : StM} {n g : Nat} {A : List Nat} (h : hitM r s n A = some g) : g ∈ A := by
  unfold hitM at h
  split at h
  · exact gr_mem h
  · cases h
theorem beh_univ {R : RuleM} {n : Nat} {s : StM} {A : List Nat} (h : s ∈ univM R n) (hA : ∀ a ∈ A, a < n) : (roundM R.rows s n A).beh ∈ univM R n := by
  rcases first_hit s n A R.rows with h1 | ⟨pre, r, post, g, e, h1, h2⟩
  · rw [round_none h1]; exact h
  · rw [e, round_some h1 h2]
    rw [mem_univ] at h ⊢
    refine ⟨.inr ⟨r, by rw [e]; simp, rfl⟩, fun i hi => ?_⟩
    have hi : behM r s.2 g = some i := hi
    unfold behM at hi
    split at hi
    · exact h.2 i hi
    · split at hi
      · cases hi; exact hA _ (hit_mem h2)
      · cases hi
end K3
set_option Elab.async false
set_option linter.all false
set_option maxRecDepth 100000
set_option maxHeartbeats 800000
set_option pp.maxSteps 600
/-! KG5: ways_to. -/
namespace K3
open PySem PySem.Spec PyProof.Rows L2
def succM (rows : List RowM) (n : Nat) (s : StM) (a : Nat) : StM := (roundM rows s n [a]).beh
inductive SPath (rows : List RowM) (n : Nat) (s0 : StM) : List Nat → StM → Prop
  | nil : SPath rows n s0 [] s0
  | snoc {p : List Nat} {s : StM} {a : Nat} (h : SPath rows n s0 p s) (ha : a < n) : SPath rows n s0 (p ++ [a]) (succM rows n s a)
def ClosedM (rows : List RowM) (n : Nat) (ways : List (StM × List Nat)) (s : StM) : Prop := ∀ a, a < n → succM rows n s a ∈ keysS ways
structure WI (R : RuleM) (n : Nat) (ways : List (StM × List Nat)) : Prop where
  nd : (keysS ways).Nodup
  st : (R.first, none) ∈ keysS ways
  pt : ∀ q ∈ ways, SPath R.rows n (R.first, none) q.2 q.1 ∧ q.2.length < ways.length
  un : ∀ s ∈ keysS ways, s ∈ univM R n
theorem WI.len {R : RuleM} {n : Nat} {ways : List (StM × List Nat)} (h : WI R n ways) : ways.length ≤ (R.rows.length + 1) * (n + 1) := by
  have := nodup_le h.nd h.un
  rw [univ_len] at this
  unfold keysS at this
  rwa [List.length_map] at this
theorem WI.start (R : RuleM) (n : Nat) : WI R n [((R.first, none), [])] where
  nd := by simp [keysS]
  st := by simp [keysS]
  pt := fun q hq => by
    rcases List.mem_singleton.mp hq with rfl
    exact ⟨.nil, by simp⟩
  un := fun s hs => by
    have : s = (R.first, none) := by simpa [keysS] using hs
    subst this
    exact mem_univ.mpr ⟨.inl rfl, fun i hi => nomatch hi⟩
theorem WI.add {R : RuleM} {n a : Nat} {ways : List (StM × List Nat)} {s : StM} {p : List Nat} (h : WI R n ways) (hs : lookS ways s = some p) (ha : a < n) (hn : succM R.rows n s a ∉ keysS ways) : WI R n (ways ++ [(succM R.rows n s a, p ++ [a])]) where
  nd := by
    unfold keysS
    rw [List.map_append, List.nodup_append]
    refine ⟨h.nd, by simp, fun x hx y hy z => ?_⟩
    have : y = succM R.rows n s a := by simpa using hy
    exact hn (by rw [← this, ← z]; exact hx)
  st := by
    have := h.st
    unfold keysS at this ⊢
    rw [List.map_append]
    exact List.mem_append_left _ this
  pt := fun q hq => by
    rw [List.length_append]
    rcases List.mem_append.mp hq with h1 | h1
    · obtain ⟨u, v⟩ := h.pt q h1
      exact ⟨u, by omega⟩
    · rcases List.mem_singleton.mp h1 with rfl
      obtain ⟨u, v⟩ := h.pt _ (lookS_mem hs)
      exact ⟨.snoc u ha, by simp; exact v⟩
  un := fun t ht => by
    unfold keysS at ht
    rw [List.map_append] at ht
    rcases List.mem_append.mp ht with h1 | h1
    · exact h.un t h1
    · have : t = succM R.rows n s a := by simpa using h1
      subst this
      exact beh_univ (h.un s (keyS_of_mem (lookS_mem hs))) fun b hb => by rcases List.mem_singleton.mp hb with rfl; exact ha
def pthD (p : List Nat) : D := .tup (p.map fun a => tupI [a])
theorem pthD_snoc (p : List Nat) (a : Nat) : pthD (p ++ [a]) = .tup ((p.map fun a => tupI [a]) ++ [tupI [a]]) := by unfold pthD; rw [List.map_append] <;> rfl
theorem map_get {α β : Type} {f : α → β} {xs : List α} {i : Nat} {d : β} (h : (xs.map f)[i]? = some d) : ∃ q, xs[i]? = some q ∧ d = f q := by
  rw [List.getElem?_map] at h
  cases e : xs[i]? with
  | none => rw [e] at h; cases h
  | some a => rw [e] at h; cases h; exact ⟨a, rfl, rfl⟩
theorem rng_get {n i : Nat} {x : D} (h : (rngD 0 ((n : Int).toNat))[i]? = some x) : i < n ∧ x = dI (i : Int) := by
  have hl : i < n := by
    have := (List.getElem?_eq_some_iff.mp h).1
    rw [rngD_len] at this
    simpa using this
  rw [rngD_get (by simpa using hl)] at h
  cases h
  exact ⟨hl, by rw [Int.zero_add]⟩
def S_ways_to (K : PySem.W.Frag) : DSp := fun xs μ Φ => ∃ (R : RuleM) (md : D) (n : Nat), xs = [ruleD K R md, dI (n : Int)] ∧ R.rows.length < 60 ∧ n < 60 ∧ ∀ ways, WI R n ways → (∀ s ∈ keysS ways, ClosedM R.rows n ways s) → Φ (.dct (dctS pthD ways)) μ
theorem keys_app {α : Type} (xs : List (StM × α)) (q : StM × α) : keysS (xs ++ [q]) = keysS xs ++ [q.1] := by unfold keysS; rw [List.map_append] <;> rfl
section
variable {P : Program} {w : World} {K : PySem.W.Frag} {mg : Str → Option Value} {base : Heap}
theorem sc_ways_to : FnScope ["rule", "askers", "found", "waiting", "later", "state", "asker", "at", "granted", "mode", "pointer"] ["rule", "askers"] (defScope (top 43)) := ⟨rfl, rfl, rfl, by decide +kernel, rfl, by decide +kernel, by decide +kernel⟩
theorem G_ways_to (T : TF w K mg) (F : FnP K "ways_to" "ways_to" (top 43) (He.ga K "ways_to")) (hm : mg "ways_to" = some (.ref (He.ga K "ways_to"))) (G_round_done : FnG P w K mg base "round_done" ["rule", "mode", "pointer", "askers", "asking"] 3 ((S_round_done K))) : FnG P w K mg base "ways_to" ["rule", "askers"] 4 ((S_ways_to K)) := by
  refine fnG_of F hm sc_ways_to (fun _ _ _ _ _ _ us hl => match us, hl with | [_, _], _ => rfl) ?_ ?_
  · (intro ds μ Φ h; first | (obtain ⟨_, rfl, _⟩ := h; rfl) | (obtain ⟨_, _, rfl, _⟩ := h; rfl) | (obtain ⟨_, _, _, rfl, _⟩ := h; rfl) | (obtain ⟨_, _, _, _, rfl, _⟩ := h; rfl) | (obtain ⟨_, _, _, _, _, rfl, _⟩ := h; rfl) | (obtain ⟨_, _, _, _, _, _, rfl, _⟩ := h; rfl))
  intro f cdv A outer s H E hr
  have nd := sc_ways_to.nd
  refine ⟨_, (ss_cons (s_set 2 nd (q_dct1M hr.units0 (q_tup (a_cons (q_fld (He.ga K "Rule") ["first", "rows", "modes"] 0 T.rule.cl (T.rule.na _ (by simp)) (q_var 0)) (a_cons q_non a_nil))) (q_tup a_nil)))
      (ss_cons (s_set 3 nd (q_lst (a_cons (q_tup (a_cons (q_fld (He.ga K "Rule") ["first", "rows", "modes"] 0 T.rule.cl (T.rule.na _ (by simp)) (q_var 0)) (a_cons q_non a_nil))) a_nil)))
      (ss_cons (s_while PassesOwn.never (t_gt (q_cb call_len_seq sim_len rfl (T.free "len" (by simp)) (by decide +kernel) (a_cons (q_var 3) a_nil)) q_int) (ss_cons (s_set 4 nd (q_lstM a_nil))
      (ss_cons (s_for PassesOwn.never rfl (i_list (q_var 3)) (g_name (i := 5) nd rfl (.inl rfl)) (ss_one (s_for PassesOwn.never rfl (i_range1 rfl (T.free "range" (by simp)) (a_cons (q_var 1) a_nil)) (g_name (i := 6) nd rfl (.inl rfl)) (ss_cons (s_asg (q_callS G_round_done (hr.mono (by decide)) rfl (a_cons (q_var 0) (a_star (q_var 5) (a_cons (q_var 1) (a_cons (q_tup (a_cons (q_var 6) a_nil)) a_nil))))) (g_tup rfl (gs_cons (g_name (i := 7) nd rfl (.inl rfl)) (gs_cons (g_name (i := 8) nd rfl (.inl rfl)) (gs_cons (g_name (i := 9) nd rfl (.inl rfl)) (gs_cons (g_name (i := 10) nd rfl (.inl rfl)) gs_nil))))))
      (ss_one (s_if (t_cmp (op_dNotIn (hu_of hr)) sim_dIn (q_tup (a_cons (q_var 9) (a_cons (q_var 10) a_nil))) (q_var 2) (by rfl)) (ss_cons (s_asg (q_tup (a_star (q_dGet (hu_of hr) (q_var 2) (q_var 5)) (a_cons (q_tup (a_cons (q_var 6) a_nil)) a_nil))) (g_dct (hu_of hr) (q_var 2) (q_tup (a_cons (q_var 9) (a_cons (q_var 10) a_nil)))))
      (ss_one (s_expr (q_lm PySem.F.plainAttrs_list PySem.F.slot_list_append PySem.F.type_list_append mt_append simLm_app lmApp_mono (q_var 4) (a_cons (q_tup (a_cons (q_var 9) (a_cons (q_var 10) a_nil))) a_nil))))) ss_nil))))))
      (ss_frz 4 (ss_one (s_set 3 nd (q_var 4)))))))
      (ss_one (s_retF (q_var 2)))))), ?_⟩
  clear hr nd F hm
  rintro _ μ Φ ⟨R, md, n, rfl, hrl, hn, h⟩
  obtain ⟨Bd, hBd⟩ : ∃ b, b = (R.rows.length + 1) * (n + 1) := ⟨_, rfl⟩
  have hBd2 : Bd ≤ 3600 := by
    rw [hBd]
    exact Nat.le_trans (Nat.mul_le_mul (show R.rows.length + 1 ≤ 60 by omega) (show n + 1 ≤ 60 by omega)) (by decide)
  (conv => whnf)
  intro f hf
  refine ⟨rfl, rfl, ?_⟩
  (conv => whnf)
  refine ⟨stK (R.first, none), rfl, mup_same, ?_⟩
  (conv => whnf)
  refine ⟨rfl, rfl, ?_⟩
  (conv => whnf)
  refine ⟨fun m ρ μ' => ∃ ways ws, WI R n ways ∧ (∀ a o, μ a = some o → μ' a = some o) ∧ μ' f = some (.dct (dctS pthD ways)) ∧ (∀ s ∈ ws, s ∈ keysS ways) ∧ (∀ s ∈ keysS ways, s ∈ ws ∨ ClosedM R.rows n ways s) ∧ m = 2 * (Bd - ways.length) + (if ws = [] then 0 else 1) ∧
    ∃ d4 d5 d6 d7 d8 d9 d10, ρ = [some (ruleD K R md), some (dI (n : Int)), some (dR f), some (.lst (ws.map stD)), d4, d5, d6, d7, d8, d9, d10], ?_, ?_⟩
  · refine ⟨_, [((R.first, none), [])], [(R.first, none)], WI.start R n, fun a o e => ?_, ?_, fun s hs => ?_, fun s hs => ?_, rfl, _, _, _, _, _, _, _, rfl⟩
    · have h1 : a ≠ f := fun z => by rw [z, hf] at e; cases e
      rw [mup_ne h1, mup_ne h1]; exact e
    · rw [mup_same] <;> rfl
    · simpa [keysS] using hs
    · left; simpa [keysS] using hs
  · rintro m ρ μ' ⟨ways, ws, hw, hm, hmf, hsub, hcl, hmeas, d4, d5, d6, d7, d8, d9, d10, rfl⟩
    have hlen := hw.len
    rw [← hBd] at hlen
    (conv => whnf)
    refine ⟨fun hc => ?_, fun hc => ?_⟩
    · have hws : ws ≠ [] := fun z => by
        subst z
        exact (ft_ hc)
      (conv => whnf)
      intro l hl
      have nlf : l ≠ f := fun z => by rw [z, hmf] at hl; cases hl
      have hl0 : μ l = none := by
        cases e : μ l with
        | none => rfl
        | some o => rw [hm l o e] at hl; cases hl
      (conv => whnf)
      refine ⟨fun i ρ μ' => ∃ ways' later, WI R n ways' ∧ (∀ a o, μ a = some o → μ' a = some o) ∧ μ' f = some (.dct (dctS pthD ways')) ∧ μ' l = some (.lst ((later : List StM).map stD)) ∧ ways'.length = ways.length + later.length ∧
        (∀ s ∈ keysS ways, s ∈ keysS ways') ∧ (∀ s ∈ later, s ∈ keysS ways') ∧ (∀ s ∈ keysS ways', s ∈ ws.drop i ∨ s ∈ later ∨ ClosedM R.rows n ways' s) ∧
        ∃ d5 d6 d7 d8 d9 d10, ρ = [some (ruleD K R md), some (dI (n : Int)), some (dR f), some (.lst (ws.map stD)), some (dR l), d5, d6, d7, d8, d9, d10], ?_, ?_, ?_⟩
      · refine ⟨ways, [], hw, fun a o e => ?_, ?_, mup_same, rfl, fun s hs => hs, (fun s hs => nomatch hs), fun s hs => ?_, _, _, _, _, _, _, rfl⟩
        · have h1 : a ≠ l := fun z => by rw [z, hl0] at e; cases e
          rw [mup_ne h1]; exact hm a o e
        · rw [mup_ne nlf.symm]; exact hmf
        · rcases hcl s hs with z | z
          · exact .inl z
          · exact .inr (.inr z)
      · rintro i x ρ μ2 hx ⟨ways', later, hw', hm', hmf', hml', hlen', hk', hla', hcl', d5, d6, d7, d8, d9, d10, rfl⟩
        obtain ⟨st, hst, rfl⟩ := map_get hx
        have hstk : st ∈ keysS ways' := hk' _ (hsub _ (List.mem_of_getElem? hst))
        (conv => whnf)
        refine ⟨⟨by omega, by omega⟩, fun j ρ μ' => ∃ ways' later, WI R n ways' ∧ (∀ a o, μ a = some o → μ' a = some o) ∧ μ' f = some (.dct (dctS pthD ways')) ∧ μ' l = some (.lst ((later : List StM).map stD)) ∧ ways'.length = ways.length + later.length ∧
          (∀ s ∈ keysS ways, s ∈ keysS ways') ∧ (∀ s ∈ later, s ∈ keysS ways') ∧ (∀ s ∈ keysS ways', s = st ∨ s ∈ ws.drop (i + 1) ∨ s ∈ later ∨ ClosedM R.rows n ways' s) ∧ (∀ a, a < j → succM R.rows n st a ∈ keysS ways') ∧
          ∃ d6 d7 d8 d9 d10, ρ = [some (ruleD K R md), some (dI (n : Int)), some (dR f), some (.lst (ws.map stD)), some (dR l), some (stD st), d6, d7, d8, d9, d10], ?_, ?_, ?_⟩
        · refine ⟨ways', later, hw', hm', hmf', hml', hlen', hk', hla', fun s hs => ?_, fun a ha => by omega, _, _, _, _, _, rfl⟩
          rcases hcl' s hs with z | z
          · rw [drop_get hst] at z
            rcases List.mem_cons.mp z with z | z
            · exact .inl z
            · exact .inr (.inl z)
          · exact .inr (.inr z)
        · clear hw' hm' hmf' hml' hlen' hk' hla' hcl' hstk
          clear ways' later
          rintro j x ρ μ3 hx ⟨ways', later, hw', hm', hmf', hml', hlen', hk', hla', hcl', hdone, d6, d7, d8, d9, d10, rfl⟩
          obtain ⟨hjn, rfl⟩ := rng_get hx
          have hstk : st ∈ keysS ways' := hk' _ (hsub _ (List.mem_of_getElem? hst))
          obtain ⟨pst, hpst⟩ := lookS_some hstk
          have hwl := hw'.len
          rw [← hBd] at hwl
          have nlf : l ≠ f := fun z => by rw [z, hmf'] at hml'; cases hml'
          (conv => whnf)
          refine ⟨R, md, st, n, [j], rfl, hrl, fun gs hgs => ?_⟩
          (conv => whnf)
          refine ⟨stK (succM R.rows n st j), (stK_D _).symm, _, hmf', ?_⟩
          have hlook := lookD_S pthD (succM R.rows n st j) ways'
          refine ⟨fun hc2 => ?_, fun hc2 => ?_⟩
          · have hnew : succM R.rows n st j ∉ keysS ways' := by
              rw [← lookS_none]
              have : (lookD (dctS pthD ways') (stK (succM R.rows n st j))).isSome = false := by simpa using hc2
              rw [hlook] at this
              simpa using this
            (conv => whnf)
            refine ⟨stK st, (stK_D _).symm, _, hmf', ?_⟩
            have e1 : lookD (dctS pthD ways') (stK st) = some (pthD pst) := by rw [lookD_S, hpst] <;> rfl
            (conv => whnf)
            split
            case h_2 e => exact nomatch (e1.symm.trans e)
            rename_i d e
            cases (e1.symm.trans e)
            have hp2 : pst.length < ways'.length := (hw'.pt _ (lookS_mem hpst)).2
            (conv => whnf)
            refine lenOk.mk (by simp; omega) ?_
            (conv => whnf)
            refine ⟨stK (succM R.rows n st j), _, (stK_D _).symm, hmf', lenOk.mk (by simp [dctS]; omega) ?_⟩
            (conv => whnf)
            refine ⟨⟨_, (mup_ne nlf).trans hml'⟩, ?_⟩
            (conv => whnf)
            refine ⟨_, (mup_ne nlf).trans hml', ?_⟩
            (conv => whnf)
            refine lenOk.mk (by simp; omega) ?_
            refine ⟨ways' ++ [(succM R.rows n st j, pst ++ [j])], later ++ [succM R.rows n st j], hw'.add hpst hjn hnew, fun a o e => ?_, ?_, ?_, ?_, fun s hs => ?_, fun s hs => ?_, fun s hs => ?_, fun a ha => ?_, _, _, _, _, _, rfl⟩
            · have h1 : a ≠ f := fun z => by rw [z, hf] at e; cases e
              have h2 : a ≠ l := fun z => by rw [z, hl0] at e; cases e
              rw [mup_ne h2, mup_ne h1]; exact hm' a o e
            · rw [mup_ne nlf.symm, mup_same, ← putS_new hnew, ← putD_S, pthD_snoc] <;> rfl
            · rw [mup_same, List.map_append] <;> rfl
            · simp; omega
            · rw [keys_app]; exact List.mem_append_left _ (hk' s hs)
            · rw [keys_app]
              rcases List.mem_append.mp hs with z | z
              · exact List.mem_append_left _ (hla' s z)
              · exact List.mem_append_right _ z
            · rw [keys_app] at hs
              have mono : ∀ s, ClosedM R.rows n ways' s → ClosedM R.rows n (ways' ++ [(succM R.rows n st j, pst ++ [j])]) s := fun s hs a ha => by rw [keys_app]; exact List.mem_append_left _ (hs a ha)
              rcases List.mem_append.mp hs with z | z
              · rcases hcl' s z with z | z | z | z
                · exact .inl z
                · exact .inr (.inl z)
                · exact .inr (.inr (.inl (List.mem_append_left _ z)))
                · exact .inr (.inr (.inr (mono s z)))
              · exact .inr (.inr (.inl (List.mem_append_right _ z)))
            · rw [keys_app]
              by_cases haj : a = j
              · subst haj; simp
              · exact List.mem_append_left _ (hdone a (by omega))
          · have hold : succM R.rows n st j ∈ keysS ways' := by
              have : (lookD (dctS pthD ways') (stK (succM R.rows n st j))).isSome = true := by simpa using hc2
              rw [hlook] at this
              by_cases hk : succM R.rows n st j ∈ keysS ways'
              · exact hk
              · rw [lookS_none.mpr hk] at this; simp at this
            (conv => whnf)
            refine ⟨ways', later, hw', hm', hmf', hml', hlen', hk', hla', hcl', fun a ha => ?_, _, _, _, _, _, rfl⟩
            by_cases haj : a = j
            · subst haj; exact hold
            · exact hdone a (by omega)
        · clear hw' hm' hmf' hml' hlen' hk' hla' hcl' hstk
          clear ways' later
          rintro ρ μ3 ⟨ways', later, hw', hm', hmf', hml', hlen', hk', hla', hcl', hdone, d6, d7, d8, d9, d10, rfl⟩
          refine ⟨ways', later, hw', hm', hmf', hml', hlen', hk', hla', fun s hs => ?_, _, _, _, _, _, _, rfl⟩
          rcases hcl' s hs with rfl | z
          · refine .inr (.inr fun a ha => hdone a ?_)
            rw [rngD_len]; simpa using ha
          · exact z
      · rintro ρ μ2 ⟨ways', later, hw', hm', hmf', hml', hlen', hk', hla', hcl', d5, d6, d7, d8, d9, d10, rfl⟩
        have hwl := hw'.len
        rw [← hBd] at hwl
        rw [List.length_map, List.drop_length] at hcl'
        (conv => whnf)
        refine ⟨l, _, rfl, hml', hl0, ?_⟩
        (conv => whnf)
        have nlf : l ≠ f := fun z => by rw [z, hmf'] at hml'; cases hml'
        refine ⟨_, ?_, ways', later, hw', fun a o e => ?_, ?_, hla', fun s hs => ?_, rfl, _, _, _, _, _, _, _, rfl⟩
        · rw [hmeas, if_neg hws]
          split
          · omega
          · rename_i hne
            have : 0 < later.length := List.length_pos_iff.mpr hne
            omega
        · have h2 : a ≠ l := fun z => by rw [z, hl0] at e; cases e
          rw [mdel_ne h2]; exact hm' a o e
        · rw [mdel_ne nlf.symm]; exact hmf'
        · rcases hcl' s hs with z | z
          · cases z
          · exact z
    · (conv => whnf)
      refine ⟨f, _, rfl, hmf, hf, μ, fun a o e => ?_, h ways hw fun s hs => ?_⟩
      · have h1 : a ≠ f := fun z => by rw [z, hf] at e; cases e
        rw [mdel_ne h1]; exact hm a o e
      · rcases hcl s hs with z | z
        · cases ws with
          | nil => cases z
          | cons x xs => 
            have := of_decide_eq_false hc
            simp at this
            try omega
        · exact z
end
end K3
set_option Elab.async false
set_option linter.all false
set_option maxRecDepth 100000
set_option maxHeartbeats 800000
set_option pp.maxSteps 600
/-! KG6: parts. -/
namespace K3
open PySem PySem.Spec PyProof.Rows L2
def sidesL : List Str := ["home", "low", "here", "high"]
def lineOf (side : Str) : List Str := (partsOf side).getD []
def rpM (pick side : Str) : List Str :=
  if pick = "all" ∨ side = "home" then (if pick = "all" ∨ pick = "at" ∨ pick = "past" then lineOf side else [])
  else if pick = "under" then (lineOf side).take ((lineOf side).idxOf (if side = "here" then ("w" : Str) else ("point" : Str)))
  else if pick = "keep" then ((lineOf side).drop ((lineOf side).idxOf (if side = "here" then ("w" : Str) else ("point" : Str)))).take 1
  else if pick = "at" then (lineOf side).drop ((lineOf side).idxOf (if side = "here" then ("w" : Str) else ("point" : Str)))
  else (lineOf side).drop ((lineOf side).idxOf (if side = "here" then ("w" : Str) else ("point" : Str)) + 1)
theorem side_cases {side : Str} (h : side ∈ sidesL) : side = "home" ∨ side = "low" ∨ side = "here" ∨ side = "high" := by simpa [sidesL] using h
theorem pick_cases {pick : Str} (h : pick ∈ picksL) : pick = "keep" ∨ pick = "at" ∨ pick = "past" ∨ pick = "under" ∨ pick = "all" := by simpa [picksL] using h
def S_region_parts : DSp := fun xs μ Φ => ∃ (pick side : Str), xs = [dS pick, dS side] ∧ pick ∈ picksL ∧ side ∈ sidesL ∧ Φ (.tup ((rpM pick side).map dS)) μ
section
variable {P : Program} {w : World} {K : PySem.W.Frag} {mg : Str → Option Value} {base : Heap}
theorem sc_region_parts : FnScope ["pick", "side", "line", "spot"] ["pick", "side"] (defScope (top 5)) := ⟨rfl, rfl, rfl, by decide +kernel, rfl, by decide +kernel, by decide +kernel⟩
theorem G_region_parts (T : TF w K mg) (F : FnP K "region_parts" "region_parts" (top 5) (He.ga K "region_parts")) (hm : mg "region_parts" = some (.ref (He.ga K "region_parts")))  : FnG P w K mg base "region_parts" ["pick", "side"] 1 (S_region_parts) := by
  refine fnG_of F hm sc_region_parts (fun _ _ _ _ _ _ us hl => match us, hl with | [_, _], _ => rfl) ?_ ?_
  · (intro ds μ Φ h; first | (obtain ⟨_, rfl, _⟩ := h; rfl) | (obtain ⟨_, _, rfl, _⟩ := h; rfl) | (obtain ⟨_, _, _, rfl, _⟩ := h; rfl) | (obtain ⟨_, _, _, _, rfl, _⟩ := h; rfl) | (obtain ⟨_, _, _, _, _, rfl, _⟩ := h; rfl) | (obtain ⟨_, _, _, _, _, _, rfl, _⟩ := h; rfl))
  intro f cdv A outer s H E hr
  have nd := sc_region_parts.nd
  refine ⟨_, (ss_cons (s_set 2 nd (q_kGet T.kdOk (q_gR rfl T.parts) (q_var 1)))
      (ss_cons (s_if (t_w (w_or (t_eq (q_var 0) q_str) (w_or1 (t_eq (q_var 1) q_str)))) (ss_one (s_ret (q_if (t_cmp (op_in_seq) sim_in (q_var 0) (q_tup (a_cons q_str (a_cons q_str (a_cons q_str a_nil)))) (by rfl)) (q_kt (fun _ _ => kt_ok) (q_var 2)) (q_tup a_nil)))) ss_nil)
      (ss_cons (s_set 3 nd (q_tIdx (fun _ _ => kt_ok) (q_var 2) (a_cons (q_if (t_eq (q_var 1) q_str) (q_gS rfl T.me) q_str) a_nil) (pa := PySem.F.plainAttrs_tuple) (ty := PySem.F.type_tuple_index)))
      (ss_cons (s_if (t_eq (q_var 0) q_str) (ss_one (s_ret (q_slT (q_kt (fun _ _ => kt_ok) (q_var 2)) o_none (o_some (q_var 3))))) ss_nil)
      (ss_one (s_ret (q_if (t_eq (q_var 0) q_str) (q_slT (q_kt (fun _ _ => kt_ok) (q_var 2)) (o_some (q_var 3)) (o_some (q_add (q_var 3) q_int))) (q_slT (q_kt (fun _ _ => kt_ok) (q_var 2)) (o_some (q_add (q_var 3) (q_cty call_int1 sim_int rfl (T.free "int" (by simp)) (by decide +kernel) (a_cons (q_eq (q_var 0) q_str) a_nil)))) o_none)))))))), ?_⟩
  clear hr nd F hm
  rintro _ μ Φ ⟨pick, side, rfl, hp, hs, h⟩
  have hk0 := T.partsT "home" _ rfl
  have hk1 := T.partsT "low" _ rfl
  have hk2 := T.partsT "here" _ rfl
  have hk3 := T.partsT "high" _ rfl
  rcases side_cases hs with rfl | rfl | rfl | rfl
  · rcases pick_cases hp with rfl | rfl | rfl | rfl | rfl
    all_goals ((repeat' ((conv => whnf) <;> first | refine And.intro rfl ?_ | (refine And.intro (fun hc => ?_) (fun hc => ?_) <;> first | (exact (tf_ hc).elim) | (exact (ft_ hc).elim) | skip) | refine @Exists.intro Mu _ _ (And.intro (fun _ _ e => e) ?_) | refine @Exists.intro (List V) _ _ (And.intro rfl ?_) | refine @Exists.intro PyData _ _ (And.intro rfl ?_))) <;> (try (conv => whnf)))
    all_goals (first | exact h | skip)
    all_goals ((split; rotate_left; (rename_i e_; exact nomatch ((hk0).symm.trans e_)); rename_i ts_ e_; cases ((hk0).symm.trans e_)); ((repeat' ((conv => whnf) <;> first | refine And.intro rfl ?_ | (refine And.intro (fun hc => ?_) (fun hc => ?_) <;> first | (exact (tf_ hc).elim) | (exact (ft_ hc).elim) | skip) | refine @Exists.intro Mu _ _ (And.intro (fun _ _ e => e) ?_) | refine @Exists.intro (List V) _ _ (And.intro rfl ?_) | refine @Exists.intro PyData _ _ (And.intro rfl ?_))) <;> (try (conv => whnf))); exact h)
  · rcases pick_cases hp with rfl | rfl | rfl | rfl | rfl
    all_goals ((repeat' ((conv => whnf) <;> first | refine And.intro rfl ?_ | (refine And.intro (fun hc => ?_) (fun hc => ?_) <;> first | (exact (tf_ hc).elim) | (exact (ft_ hc).elim) | skip) | refine @Exists.intro Mu _ _ (And.intro (fun _ _ e => e) ?_) | refine @Exists.intro (List V) _ _ (And.intro rfl ?_) | refine @Exists.intro PyData _ _ (And.intro rfl ?_))) <;> (try (conv => whnf)))
    all_goals (first | exact h | skip)
    all_goals (first | ((split; rotate_left; (rename_i e_; exact nomatch ((hk1).symm.trans e_)); rename_i ts_ e_; cases ((hk1).symm.trans e_)); (first | (((repeat' ((conv => whnf) <;> first | refine And.intro rfl ?_ | (refine And.intro (fun hc => ?_) (fun hc => ?_) <;> first | (exact (tf_ hc).elim) | (exact (ft_ hc).elim) | skip) | refine @Exists.intro Mu _ _ (And.intro (fun _ _ e => e) ?_) | refine @Exists.intro (List V) _ _ (And.intro rfl ?_) | refine @Exists.intro PyData _ _ (And.intro rfl ?_))) <;> (try (conv => whnf))); exact h) | skip)) | skip)
    all_goals (first | (((repeat' ((conv => whnf) <;> first | refine And.intro rfl ?_ | (refine And.intro (fun hc => ?_) (fun hc => ?_) <;> first | (exact (tf_ hc).elim) | (exact (ft_ hc).elim) | skip) | refine @Exists.intro Mu _ _ (And.intro (fun _ _ e => e) ?_) | refine @Exists.intro (List V) _ _ (And.intro rfl ?_) | refine @Exists.intro PyData _ _ (And.intro rfl ?_))) <;> (try (conv => whnf))); refine ⟨1, rfl, by decide, ?_⟩) | skip)
    all_goals ((repeat' ((conv => whnf) <;> first | refine And.intro rfl ?_ | (refine And.intro (fun hc => ?_) (fun hc => ?_) <;> first | (exact (tf_ hc).elim) | (exact (ft_ hc).elim) | skip) | refine @Exists.intro Mu _ _ (And.intro (fun _ _ e => e) ?_) | refine @Exists.intro (List V) _ _ (And.intro rfl ?_) | refine @Exists.intro PyData _ _ (And.intro rfl ?_))) <;> (try (conv => whnf)))
    all_goals ((split; rotate_left; (rename_i e_; exact nomatch ((hk1).symm.trans e_)); rename_i ts_ e_; cases ((hk1).symm.trans e_)); ((repeat' ((conv => whnf) <;> first | refine And.intro rfl ?_ | (refine And.intro (fun hc => ?_) (fun hc => ?_) <;> first | (exact (tf_ hc).elim) | (exact (ft_ hc).elim) | skip) | refine @Exists.intro Mu _ _ (And.intro (fun _ _ e => e) ?_) | refine @Exists.intro (List V) _ _ (And.intro rfl ?_) | refine @Exists.intro PyData _ _ (And.intro rfl ?_))) <;> (try (conv => whnf))); exact h)
  · rcases pick_cases hp with rfl | rfl | rfl | rfl | rfl
    all_goals ((repeat' ((conv => whnf) <;> first | refine And.intro rfl ?_ | (refine And.intro (fun hc => ?_) (fun hc => ?_) <;> first | (exact (tf_ hc).elim) | (exact (ft_ hc).elim) | skip) | refine @Exists.intro Mu _ _ (And.intro (fun _ _ e => e) ?_) | refine @Exists.intro (List V) _ _ (And.intro rfl ?_) | refine @Exists.intro PyData _ _ (And.intro rfl ?_))) <;> (try (conv => whnf)))
    all_goals (first | exact h | skip)
    all_goals (first | ((split; rotate_left; (rename_i e_; exact nomatch ((hk2).symm.trans e_)); rename_i ts_ e_; cases ((hk2).symm.trans e_)); (first | (((repeat' ((conv => whnf) <;> first | refine And.intro rfl ?_ | (refine And.intro (fun hc => ?_) (fun hc => ?_) <;> first | (exact (tf_ hc).elim) | (exact (ft_ hc).elim) | skip) | refine @Exists.intro Mu _ _ (And.intro (fun _ _ e => e) ?_) | refine @Exists.intro (List V) _ _ (And.intro rfl ?_) | refine @Exists.intro PyData _ _ (And.intro rfl ?_))) <;> (try (conv => whnf))); exact h) | skip)) | skip)
    all_goals (first | (((repeat' ((conv => whnf) <;> first | refine And.intro rfl ?_ | (refine And.intro (fun hc => ?_) (fun hc => ?_) <;> first | (exact (tf_ hc).elim) | (exact (ft_ hc).elim) | skip) | refine @Exists.intro Mu _ _ (And.intro (fun _ _ e => e) ?_) | refine @Exists.intro (List V) _ _ (And.intro rfl ?_) | refine @Exists.intro PyData _ _ (And.intro rfl ?_))) <;> (try (conv => whnf))); refine ⟨1, rfl, by decide, ?_⟩) | skip)
    all_goals ((repeat' ((conv => whnf) <;> first | refine And.intro rfl ?_ | (refine And.intro (fun hc => ?_) (fun hc => ?_) <;> first | (exact (tf_ hc).elim) | (exact (ft_ hc).elim) | skip) | refine @Exists.intro Mu _ _ (And.intro (fun _ _ e => e) ?_) | refine @Exists.intro (List V) _ _ (And.intro rfl ?_) | refine @Exists.intro PyData _ _ (And.intro rfl ?_))) <;> (try (conv => whnf)))
    all_goals ((split; rotate_left; (rename_i e_; exact nomatch ((hk2).symm.trans e_)); rename_i ts_ e_; cases ((hk2).symm.trans e_)); ((repeat' ((conv => whnf) <;> first | refine And.intro rfl ?_ | (refine And.intro (fun hc => ?_) (fun hc => ?_) <;> first | (exact (tf_ hc).elim) | (exact (ft_ hc).elim) | skip) | refine @Exists.intro Mu _ _ (And.intro (fun _ _ e => e) ?_) | refine @Exists.intro (List V) _ _ (And.intro rfl ?_) | refine @Exists.intro PyData _ _ (And.intro rfl ?_))) <;> (try (conv => whnf))); exact h)
  · rcases pick_cases hp with rfl | rfl | rfl | rfl | rfl
    all_goals ((repeat' ((conv => whnf) <;> first | refine And.intro rfl ?_ | (refine And.intro (fun hc => ?_) (fun hc => ?_) <;> first | (exact (tf_ hc).elim) | (exact (ft_ hc).elim) | skip) | refine @Exists.intro Mu _ _ (And.intro (fun _ _ e => e) ?_) | refine @Exists.intro (List V) _ _ (And.intro rfl ?_) | refine @Exists.intro PyData _ _ (And.intro rfl ?_))) <;> (try (conv => whnf)))
    all_goals (first | exact h | skip)
    all_goals (first | ((split; rotate_left; (rename_i e_; exact nomatch ((hk3).symm.trans e_)); rename_i ts_ e_; cases ((hk3).symm.trans e_)); (first | (((repeat' ((conv => whnf) <;> first | refine And.intro rfl ?_ | (refine And.intro (fun hc => ?_) (fun hc => ?_) <;> first | (exact (tf_ hc).elim) | (exact (ft_ hc).elim) | skip) | refine @Exists.intro Mu _ _ (And.intro (fun _ _ e => e) ?_) | refine @Exists.intro (List V) _ _ (And.intro rfl ?_) | refine @Exists.intro PyData _ _ (And.intro rfl ?_))) <;> (try (conv => whnf))); exact h) | skip)) | skip)
    all_goals (first | (((repeat' ((conv => whnf) <;> first | refine And.intro rfl ?_ | (refine And.intro (fun hc => ?_) (fun hc => ?_) <;> first | (exact (tf_ hc).elim) | (exact (ft_ hc).elim) | skip) | refine @Exists.intro Mu _ _ (And.intro (fun _ _ e => e) ?_) | refine @Exists.intro (List V) _ _ (And.intro rfl ?_) | refine @Exists.intro PyData _ _ (And.intro rfl ?_))) <;> (try (conv => whnf))); refine ⟨3, rfl, by decide, ?_⟩) | skip)
    all_goals ((repeat' ((conv => whnf) <;> first | refine And.intro rfl ?_ | (refine And.intro (fun hc => ?_) (fun hc => ?_) <;> first | (exact (tf_ hc).elim) | (exact (ft_ hc).elim) | skip) | refine @Exists.intro Mu _ _ (And.intro (fun _ _ e => e) ?_) | refine @Exists.intro (List V) _ _ (And.intro rfl ?_) | refine @Exists.intro PyData _ _ (And.intro rfl ?_))) <;> (try (conv => whnf)))
    all_goals ((split; rotate_left; (rename_i e_; exact nomatch ((hk3).symm.trans e_)); rename_i ts_ e_; cases ((hk3).symm.trans e_)); ((repeat' ((conv => whnf) <;> first | refine And.intro rfl ?_ | (refine And.intro (fun hc => ?_) (fun hc => ?_) <;> first | (exact (tf_ hc).elim) | (exact (ft_ hc).elim) | skip) | refine @Exists.intro Mu _ _ (And.intro (fun _ _ e => e) ?_) | refine @Exists.intro (List V) _ _ (And.intro rfl ?_) | refine @Exists.intro PyData _ _ (And.intro rfl ?_))) <;> (try (conv => whnf))); exact h)
end
end K3
set_option Elab.async false
set_option linter.all false
set_option maxRecDepth 100000
set_option maxHeartbeats 800000
set_option pp.maxSteps 600
/-! KG7: parts, what is granted by parts. -/
namespace K3
open PySem PySem.Spec PyProof.Rows L2
def strsD (xs : List Str) : List D := xs.map dS
def tupS (xs : List Str) : D := .tup (xs.map dS)
def oS (p : Option Str) : D := match p with | none => dN | some x => dS x
def fpM (pick side : Str) (Q : List Str) : Option Str := (rpM pick side).find? fun q => decide (q ∈ Q)
def S_first_part : DSp := fun xs μ Φ => ∃ (pick side : Str) (Q : List Str), xs = [dS pick, dS side, tupS Q] ∧ pick ∈ picksL ∧ side ∈ sidesL ∧ Φ (oS (fpM pick side Q)) μ
def subsM : List Str → List (List Str) := fun ts => ts.foldl (fun acc t => acc ++ acc.map fun q => q ++ [t]) [[]]
def S_some_of : DSp := fun xs μ Φ => ∃ (ts : List Str), xs = [.lst (strsD ts)] ∧ ts.length ≤ 4 ∧ Φ (.lst ((subsM ts).map tupS)) μ
def lotsM (side : Str) : List (List Str) := subsM ((lineOf side).filter fun q => decide (q ≠ "w"))
def S_lots : DSp := fun xs μ Φ => ∃ (side : Str), xs = [dS side] ∧ side ∈ sidesL ∧ Φ (.lst ((lotsM side).map tupS)) μ
/-- what rows grant, by parts -/
structure PAcc where
  done : Option Nat
  found : List Str
def paccM (mode side : Str) (Q : List Str) (i : Nat) (r : RowM) (c : PAcc) : PAcc :=
  if r.mode ≠ mode ∨ (c.done ≠ none ∧ r.also = false) then c
  else match fpM r.pick side Q with
    | none => c
    | some q => ⟨if c.done = none then some i else c.done, if q ∈ c.found then c.found else c.found ++ [q]⟩
def pgF (mode side : Str) (Q : List Str) : List RowM → Nat → PAcc → PAcc
  | [], _, c => c
  | r :: rs, i, c => pgF mode side Q rs (i + 1) (paccM mode side Q i r c)
def pgM (rows : List RowM) (mode side : Str) (Q : List Str) : PAcc := pgF mode side Q rows 0 ⟨none, []⟩
def RowsOk (rows : List RowM) : Prop := rows.length < 60 ∧ ∀ r ∈ rows, r.pick ∈ picksL ∧ r.move ∈ movesL
def S_parts_granted (K : PySem.W.Frag) : DSp := fun xs μ Φ => ∃ (R : RuleM) (md : D) (mode side : Str) (Q : List Str), xs = [ruleD K R md, dS mode, dS side, tupS Q] ∧ RowsOk R.rows ∧ side ∈ sidesL ∧ Φ (.tup [pD (pgM R.rows mode side Q).done, tupS (pgM R.rows mode side Q).found]) μ
section
variable {P : Program} {w : World} {K : PySem.W.Frag} {mg : Str → Option Value} {base : Heap}
theorem sc_first_part : FnScope ["pick", "side", "asking", "part"] ["pick", "side", "asking"] (defScope (top 6)) := ⟨rfl, rfl, rfl, by decide +kernel, rfl, by decide +kernel, by decide +kernel⟩
theorem G_first_part (T : TF w K mg) (F : FnP K "first_part" "first_part" (top 6) (He.ga K "first_part")) (hm : mg "first_part" = some (.ref (He.ga K "first_part"))) (G_region_parts : FnG P w K mg base "region_parts" ["pick", "side"] 1 (S_region_parts)) : FnG P w K mg base "first_part" ["pick", "side", "asking"] 2 (S_first_part) := by
  refine fnG_of F hm sc_first_part (fun _ _ _ _ _ _ us hl => match us, hl with | [_, _, _], _ => rfl) ?_ ?_
  · (intro ds μ Φ h; first | (obtain ⟨_, rfl, _⟩ := h; rfl) | (obtain ⟨_, _, rfl, _⟩ := h; rfl) | (obtain ⟨_, _, _, rfl, _⟩ := h; rfl) | (obtain ⟨_, _, _, _, rfl, _⟩ := h; rfl) | (obtain ⟨_, _, _, _, _, rfl, _⟩ := h; rfl) | (obtain ⟨_, _, _, _, _, _, rfl, _⟩ := h; rfl))
  intro f cdv A outer s H E hr
  have nd := sc_first_part.nd
  refine ⟨_, (ss_cons (s_for PassesOwn.never rfl (i_tup (q_call G_region_parts (hr.mono (by decide)) rfl (a_cons (q_var 0) (a_cons (q_var 1) a_nil)))) (g_name (i := 3) nd rfl (.inl rfl)) (ss_one (s_if (t_cmp (op_in_seq) sim_in (q_var 3) (q_var 2) (by rfl)) (ss_one (s_ret (q_var 3))) ss_nil)))
      (ss_one (s_ret q_non))), ?_⟩
  clear hr nd F hm
  rintro _ μ Φ ⟨pick, side, Q, rfl, hp, hs, h⟩
  (conv => whnf)
  refine ⟨pick, side, rfl, hp, hs, ?_⟩
  (conv => whnf)
  refine ⟨fun i ρ μ' => μ' = μ ∧ (∃ d, ρ = [some (dS pick), some (dS side), some (tupS Q), d]) ∧ fpM pick side Q = ((rpM pick side).drop i).find? fun q => decide (q ∈ Q), ⟨rfl, ⟨_, rfl⟩, rfl⟩, ?_, ?_⟩
  · rintro i x ρ μ' hx ⟨rfl, ⟨d, rfl⟩, e⟩
    obtain ⟨q, hq, rfl⟩ := map_get hx
    rw [drop_get hq, List.find?_cons] at e
    (conv => whnf)
    refine ⟨rfl, Q.map V.str, flats_str Q, ?_⟩
    have hin : inV (.str q) (Q.map V.str) = decide (q ∈ Q) := inV_str
    refine ⟨fun hc => ?_, fun hc => ?_⟩
    · have hc : inV (.str q) (Q.map V.str) = true := hc
      rw [hin] at hc
      rw [hc] at e
      ((repeat' ((conv => whnf) <;> first | refine And.intro rfl ?_ | (refine And.intro (fun hc => ?_) (fun hc => ?_) <;> first | (exact (tf_ hc).elim) | (exact (ft_ hc).elim) | skip) | refine @Exists.intro Mu _ _ (And.intro (fun _ _ e => e) ?_) | refine @Exists.intro (List V) _ _ (And.intro rfl ?_) | refine @Exists.intro PyData _ _ (And.intro rfl ?_))) <;> (try (conv => whnf)))
      rw [e] at h; exact h
    · have hc : inV (.str q) (Q.map V.str) = false := hc
      rw [hin] at hc
      rw [hc] at e
      (conv => whnf)
      exact ⟨rfl, ⟨_, rfl⟩, e⟩
  · rintro ρ μ' ⟨rfl, ⟨d, rfl⟩, e⟩
    rw [List.length_map, List.drop_length] at e
    ((repeat' ((conv => whnf) <;> first | refine And.intro rfl ?_ | (refine And.intro (fun hc => ?_) (fun hc => ?_) <;> first | (exact (tf_ hc).elim) | (exact (ft_ hc).elim) | skip) | refine @Exists.intro Mu _ _ (And.intro (fun _ _ e => e) ?_) | refine @Exists.intro (List V) _ _ (And.intro rfl ?_) | refine @Exists.intro PyData _ _ (And.intro rfl ?_))) <;> (try (conv => whnf)))
    rw [e] at h; exact h
theorem subs_len (ts : List Str) (acc : List (List Str)) : (ts.foldl (fun acc t => acc ++ acc.map fun q => q ++ [t]) acc).length = 2 ^ ts.length * acc.length := by
  induction ts generalizing acc with
  | nil => simp
  | cons t ts ih =>
    rw [List.foldl_cons, ih, List.length_append, List.length_map, List.length_cons, Nat.pow_succ, Nat.mul_assoc]
    congr 1; omega
theorem sc_some_of : FnScope ["things", "found", "one", "some"] ["things"] (defScope (top 4)) := ⟨rfl, rfl, rfl, by decide +kernel, rfl, by decide +kernel, by decide +kernel⟩
theorem G_some_of (T : TF w K mg) (F : FnP K "some_of" "some_of" (top 4) (He.ga K "some_of")) (hm : mg "some_of" = some (.ref (He.ga K "some_of")))  : FnG P w K mg base "some_of" ["things"] 1 (S_some_of) := by
  refine fnG_of F hm sc_some_of (fun _ _ _ _ _ _ us hl => match us, hl with | [_], _ => rfl) ?_ ?_
  · (intro ds μ Φ h; first | (obtain ⟨_, rfl, _⟩ := h; rfl) | (obtain ⟨_, _, rfl, _⟩ := h; rfl) | (obtain ⟨_, _, _, rfl, _⟩ := h; rfl) | (obtain ⟨_, _, _, _, rfl, _⟩ := h; rfl) | (obtain ⟨_, _, _, _, _, rfl, _⟩ := h; rfl) | (obtain ⟨_, _, _, _, _, _, rfl, _⟩ := h; rfl))
  intro f cdv A outer s H E hr
  have nd := sc_some_of.nd
  refine ⟨_, (ss_cons (s_set 1 nd (q_lst (a_cons (q_tup a_nil) a_nil)))
      (ss_cons (s_for PassesOwn.never rfl (i_list (q_var 0)) (g_name (i := 2) nd rfl (.inr rfl)) (ss_one (s_set 1 nd (q_lst (a_star (q_var 1) (a_star (q_lc (own := [("some", 3)]) (blk1 3) rfl nd (blkOk_by (own := [("some", 3)]) (by kernel_rfl)) (i_list (q_var 1)) (fun _ _ _ _ _ => (pg_name (i := 3) nd rfl (.inl rfl))) (fun _ _ _ _ _ => ts_nil) (fun _ _ _ _ _ => (q_tup (a_star (q_var 3) (a_cons (q_var 2) a_nil))))) a_nil))))))
      (ss_one (s_ret (q_var 1))))), ?_⟩
  clear hr nd F hm
  rintro _ μ Φ ⟨ts, rfl, hl, h⟩
  (conv => whnf)
  refine ⟨fun i ρ μ' => μ' = μ ∧ ∃ (acc : List (List Str)) (d2 d3 : Option D), ρ = [some (.lst (strsD ts)), some (.lst (acc.map tupS)), d2, d3] ∧ acc.length ≤ 2 ^ i ∧ (∀ q ∈ acc, q.length ≤ i) ∧ (ts.drop i).foldl (fun acc t => acc ++ acc.map fun q => q ++ [t]) acc = subsM ts, ⟨rfl, [[]], _, _, rfl, by decide, by simp, rfl⟩, ?_, ?_⟩
  · rintro i x ρ μ' hx ⟨rfl, acc, d2, d3, rfl, ha, hq, e⟩
    obtain ⟨t, ht, rfl⟩ := map_get hx
    have hi := (List.getElem?_eq_some_iff.mp ht).1
    have h2 : 2 ^ i ≤ 2 ^ 4 := Nat.pow_le_pow_right (by decide) (by omega)
    rw [drop_get ht, List.foldl_cons] at e
    (conv => whnf)
    refine LcD.map (fun d => match d with | .tup xs => .tup (xs ++ [dS t]) | _ => d) (by simp; omega) ?_ ?_
    · intro j y hy
      obtain ⟨q, hqq, rfl⟩ := map_get hy
      have := hq q (List.mem_of_getElem? hqq)
      refine ⟨_, rfl, fun Ψ hΨ => ?_⟩
      (conv => whnf)
      refine lenOk.mk (by simp; omega) ?_
      exact hΨ
    · (conv => whnf)
      refine lenOk.mk (by simp; omega) ?_
      refine ⟨rfl, acc ++ acc.map (fun q => q ++ [t]), some (dS t), d3, ?_, ?_, ?_, e⟩
      · rw [List.append_nil, List.map_append, List.map_map, List.map_map]
        have : (fun d => match d with | D.tup xs => D.tup (xs ++ [dS t]) | _ => d) ∘ tupS = tupS ∘ fun q => q ++ [t] := by
          funext q
          simp [tupS]
        rw [this] <;> rfl
      · rw [List.length_append, List.length_map, Nat.pow_succ]; omega
      · intro q hqm
        rcases List.mem_append.mp hqm with z | z
        · have := hq q z; omega
        · obtain ⟨q', h1, rfl⟩ := List.mem_map.mp z
          have := hq q' h1
          simp; omega
  · rintro ρ μ' ⟨rfl, acc, d2, d3, rfl, ha, hq, e⟩
    rw [strsD, List.length_map, List.drop_length] at e
    have e : acc = subsM ts := e
    subst e
    ((repeat' ((conv => whnf) <;> first | refine And.intro rfl ?_ | (refine And.intro (fun hc => ?_) (fun hc => ?_) <;> first | (exact (tf_ hc).elim) | (exact (ft_ hc).elim) | skip) | refine @Exists.intro Mu _ _ (And.intro (fun _ _ e => e) ?_) | refine @Exists.intro (List V) _ _ (And.intro rfl ?_) | refine @Exists.intro PyData _ _ (And.intro rfl ?_))) <;> (try (conv => whnf)))
    exact h
theorem sc_lots : FnScope ["side", "part"] ["side"] (defScope (top 8)) := ⟨rfl, rfl, rfl, by decide +kernel, rfl, by decide +kernel, by decide +kernel⟩
theorem G_lots (T : TF w K mg) (F : FnP K "lots" "lots" (top 8) (He.ga K "lots")) (hm : mg "lots" = some (.ref (He.ga K "lots"))) (G_some_of : FnG P w K mg base "some_of" ["things"] 1 (S_some_of)) : FnG P w K mg base "lots" ["side"] 2 (S_lots) := by
  refine fnG_of F hm sc_lots (fun _ _ _ _ _ _ us hl => match us, hl with | [_], _ => rfl) ?_ ?_
  · (intro ds μ Φ h; first | (obtain ⟨_, rfl, _⟩ := h; rfl) | (obtain ⟨_, _, rfl, _⟩ := h; rfl) | (obtain ⟨_, _, _, rfl, _⟩ := h; rfl) | (obtain ⟨_, _, _, _, rfl, _⟩ := h; rfl) | (obtain ⟨_, _, _, _, _, rfl, _⟩ := h; rfl) | (obtain ⟨_, _, _, _, _, _, rfl, _⟩ := h; rfl))
  intro f cdv A outer s H E hr
  have nd := sc_lots.nd
  refine ⟨_, (ss_one (s_ret (q_call G_some_of (hr.mono (by decide)) rfl (a_cons (q_lc (own := [("part", 1)]) (blk1 1) rfl nd (blkOk_by (own := [("part", 1)]) (by kernel_rfl)) (i_tup (q_kt (fun _ _ => kt_ok) (q_kGet T.kdOk (q_gR rfl T.parts) (q_var 0)))) (fun _ _ _ _ _ => (pg_name (i := 1) nd rfl (.inl rfl))) (fun _ _ _ _ _ => (ts_one (t_ne (q_var 1) (q_gS rfl T.me)))) (fun _ _ _ _ _ => (q_var 1))) a_nil)))), ?_⟩
  clear hr nd F hm
  rintro _ μ Φ ⟨side, rfl, hs, h⟩
  have hk0 := T.partsT "home" _ rfl
  have hk1 := T.partsT "low" _ rfl
  have hk2 := T.partsT "here" _ rfl
  have hk3 := T.partsT "high" _ rfl
  rcases side_cases hs with rfl | rfl | rfl | rfl
  · ((repeat' ((conv => whnf) <;> first | refine And.intro rfl ?_ | (refine And.intro (fun hc => ?_) (fun hc => ?_) <;> first | (exact (tf_ hc).elim) | (exact (ft_ hc).elim) | skip) | refine @Exists.intro Mu _ _ (And.intro (fun _ _ e => e) ?_) | refine @Exists.intro (List V) _ _ (And.intro rfl ?_) | refine @Exists.intro PyData _ _ (And.intro rfl ?_))) <;> (try (conv => whnf)))
    (split; rotate_left; (rename_i e_; exact nomatch ((hk0).symm.trans e_)); rename_i ts_ e_; cases ((hk0).symm.trans e_))
    (conv => whnf)
    refine LcD.filter (fun d => match d with | .v (.str q) => decide (q ≠ "w") | _ => false) id (by decide) ?_ ?_
    · intro i x hx
      obtain ⟨q, hq, rfl⟩ := map_get hx
      refine ⟨_, rfl, fun Ψ hΨ => ?_, fun _ Ψ hΨ => hΨ⟩
      (conv => whnf)
      refine ⟨rfl, ?_⟩
      have e : (!decide (V.str q = V.str "w")) = decide (q ≠ "w") := by simp
      rw [e]; exact hΨ
    · (conv => whnf)
      refine ⟨(lineOf "home").filter fun q => decide (q ≠ "w"), rfl, by decide, ?_⟩
      ((repeat' ((conv => whnf) <;> first | refine And.intro rfl ?_ | (refine And.intro (fun hc => ?_) (fun hc => ?_) <;> first | (exact (tf_ hc).elim) | (exact (ft_ hc).elim) | skip) | refine @Exists.intro Mu _ _ (And.intro (fun _ _ e => e) ?_) | refine @Exists.intro (List V) _ _ (And.intro rfl ?_) | refine @Exists.intro PyData _ _ (And.intro rfl ?_))) <;> (try (conv => whnf)))
      exact h
  · ((repeat' ((conv => whnf) <;> first | refine And.intro rfl ?_ | (refine And.intro (fun hc => ?_) (fun hc => ?_) <;> first | (exact (tf_ hc).elim) | (exact (ft_ hc).elim) | skip) | refine @Exists.intro Mu _ _ (And.intro (fun _ _ e => e) ?_) | refine @Exists.intro (List V) _ _ (And.intro rfl ?_) | refine @Exists.intro PyData _ _ (And.intro rfl ?_))) <;> (try (conv => whnf)))
    (split; rotate_left; (rename_i e_; exact nomatch ((hk1).symm.trans e_)); rename_i ts_ e_; cases ((hk1).symm.trans e_))
    (conv => whnf)
    refine LcD.filter (fun d => match d with | .v (.str q) => decide (q ≠ "w") | _ => false) id (by decide) ?_ ?_
    · intro i x hx
      obtain ⟨q, hq, rfl⟩ := map_get hx
      refine ⟨_, rfl, fun Ψ hΨ => ?_, fun _ Ψ hΨ => hΨ⟩
      (conv => whnf)
      refine ⟨rfl, ?_⟩
      have e : (!decide (V.str q = V.str "w")) = decide (q ≠ "w") := by simp
      rw [e]; exact hΨ
    · (conv => whnf)
      refine ⟨(lineOf "low").filter fun q => decide (q ≠ "w"), rfl, by decide, ?_⟩
      ((repeat' ((conv => whnf) <;> first | refine And.intro rfl ?_ | (refine And.intro (fun hc => ?_) (fun hc => ?_) <;> first | (exact (tf_ hc).elim) | (exact (ft_ hc).elim) | skip) | refine @Exists.intro Mu _ _ (And.intro (fun _ _ e => e) ?_) | refine @Exists.intro (List V) _ _ (And.intro rfl ?_) | refine @Exists.intro PyData _ _ (And.intro rfl ?_))) <;> (try (conv => whnf)))
      exact h
  · ((repeat' ((conv => whnf) <;> first | refine And.intro rfl ?_ | (refine And.intro (fun hc => ?_) (fun hc => ?_) <;> first | (exact (tf_ hc).elim) | (exact (ft_ hc).elim) | skip) | refine @Exists.intro Mu _ _ (And.intro (fun _ _ e => e) ?_) | refine @Exists.intro (List V) _ _ (And.intro rfl ?_) | refine @Exists.intro PyData _ _ (And.intro rfl ?_))) <;> (try (conv => whnf)))
    (split; rotate_left; (rename_i e_; exact nomatch ((hk2).symm.trans e_)); rename_i ts_ e_; cases ((hk2).symm.trans e_))
    (conv => whnf)
    refine LcD.filter (fun d => match d with | .v (.str q) => decide (q ≠ "w") | _ => false) id (by decide) ?_ ?_
    · intro i x hx
      obtain ⟨q, hq, rfl⟩ := map_get hx
      refine ⟨_, rfl, fun Ψ hΨ => ?_, fun _ Ψ hΨ => hΨ⟩
      (conv => whnf)
      refine ⟨rfl, ?_⟩
      have e : (!decide (V.str q = V.str "w")) = decide (q ≠ "w") := by simp
      rw [e]; exact hΨ
    · (conv => whnf)
      refine ⟨(lineOf "here").filter fun q => decide (q ≠ "w"), rfl, by decide, ?_⟩
      ((repeat' ((conv => whnf) <;> first | refine And.intro rfl ?_ | (refine And.intro (fun hc => ?_) (fun hc => ?_) <;> first | (exact (tf_ hc).elim) | (exact (ft_ hc).elim) | skip) | refine @Exists.intro Mu _ _ (And.intro (fun _ _ e => e) ?_) | refine @Exists.intro (List V) _ _ (And.intro rfl ?_) | refine @Exists.intro PyData _ _ (And.intro rfl ?_))) <;> (try (conv => whnf)))
      exact h
  · ((repeat' ((conv => whnf) <;> first | refine And.intro rfl ?_ | (refine And.intro (fun hc => ?_) (fun hc => ?_) <;> first | (exact (tf_ hc).elim) | (exact (ft_ hc).elim) | skip) | refine @Exists.intro Mu _ _ (And.intro (fun _ _ e => e) ?_) | refine @Exists.intro (List V) _ _ (And.intro rfl ?_) | refine @Exists.intro PyData _ _ (And.intro rfl ?_))) <;> (try (conv => whnf)))
    (split; rotate_left; (rename_i e_; exact nomatch ((hk3).symm.trans e_)); rename_i ts_ e_; cases ((hk3).symm.trans e_))
    (conv => whnf)
    refine LcD.filter (fun d => match d with | .v (.str q) => decide (q ≠ "w") | _ => false) id (by decide) ?_ ?_
    · intro i x hx
      obtain ⟨q, hq, rfl⟩ := map_get hx
      refine ⟨_, rfl, fun Ψ hΨ => ?_, fun _ Ψ hΨ => hΨ⟩
      (conv => whnf)
      refine ⟨rfl, ?_⟩
      have e : (!decide (V.str q = V.str "w")) = decide (q ≠ "w") := by simp
      rw [e]; exact hΨ
    · (conv => whnf)
      refine ⟨(lineOf "high").filter fun q => decide (q ≠ "w"), rfl, by decide, ?_⟩
      ((repeat' ((conv => whnf) <;> first | refine And.intro rfl ?_ | (refine And.intro (fun hc => ?_) (fun hc => ?_) <;> first | (exact (tf_ hc).elim) | (exact (ft_ hc).elim) | skip) | refine @Exists.intro Mu _ _ (And.intro (fun _ _ e => e) ?_) | refine @Exists.intro (List V) _ _ (And.intro rfl ?_) | refine @Exists.intro PyData _ _ (And.intro rfl ?_))) <;> (try (conv => whnf)))
      exact h
end
end K3
set_option Elab.async false
set_option linter.all false
set_option maxRecDepth 100000
set_option maxHeartbeats 800000
set_option pp.maxSteps 600
/-! KG8: rounds in vain, by parts. -/
namespace K3
open PySem PySem.Spec PyProof.Rows L2
def slM (side move part : Str) : Str × Str :=
  if move = "stay" then ("still", side)
  else if move = "home" then (if side = "home" then "still" else "jump", "home")
  else if part = "point" then ("still", side)
  else if side = "low" then (if part = "under" then "down" else "up", "low")
  else if side = "high" ∧ part = "past" then ("up", "high")
  else ("jump", if part = "under" then "low" else "high")
def S_step_led : DSp := fun xs μ Φ => ∃ (side move part : Str), xs = [dS side, dS move, dS part] ∧ Φ (.tup [dS (slM side move part).1, dS (slM side move part).2]) μ
def sideM (a : Nat) (p : Option Nat) : Str := match p with | none => "home" | some i => if i = a then "here" else if i < a then "low" else "high"
def S_side_of : DSp := fun xs μ Φ => ∃ (a : Nat) (p : Option Nat), xs = [dI (a : Int), pD p] ∧ Φ (dS (sideM a p)) μ
structure VR where
  asking : List Str
  part : Option Str
  step : Str
  later : Str
  there : Str
def vrD (v : VR) : D := .tup [tupS v.asking, oS v.part, dS v.step, dS v.later, dS v.there]
def vr1 (rows : List RowM) (mode side : Str) (Q : List Str) : Option VR :=
  if ("w" : Str) ∈ (pgM rows mode side (Q ++ [("w" : Str)])).found then none
  else match (pgM rows mode side (Q ++ [("w" : Str)])).done with
    | none => some ⟨Q, none, "still", mode, side⟩
    | some i => match rows[i]?, (pgM rows mode side (Q ++ [("w" : Str)])).found[0]? with
      | some r, some q => some ⟨Q, some q, (slM side r.move q).1, r.thn, (slM side r.move q).2⟩
      | _, _ => none
def vrM (rows : List RowM) (mode side : Str) : List VR := (lotsM side).filterMap (vr1 rows mode side)
def S_vain_rounds (K : PySem.W.Frag) : DSp := fun xs μ Φ => ∃ (R : RuleM) (md : D) (mode side : Str), xs = [ruleD K R md, dS mode, dS side] ∧ RowsOk R.rows ∧ side ∈ sidesL ∧ Φ (.lst ((vrM R.rows mode side).map vrD)) μ
/-- where there is a first row, something is granted -/
def PgOk (rows : List RowM) (c : PAcc) : Prop := ∀ i, c.done = some i → i < rows.length ∧ c.found ≠ []
theorem pgF_ok {mode side : Str} {Q : List Str} (all : List RowM) : ∀ (rows : List RowM) (i : Nat) (c : PAcc), all.drop i = rows → PgOk all c → PgOk all (pgF mode side Q rows i c)
  | [], _, _, _, h => h
  | r :: rows, i, c, e, h => by
    have hr : all[i]? = some r := by
      have : (all.drop i)[0]? = some r := by rw [e] <;> rfl
      rwa [List.getElem?_drop, Nat.add_zero] at this
    have hi := (List.getElem?_eq_some_iff.mp hr).1
    refine pgF_ok all rows (i + 1) _ ?_ ?_
    · rw [drop_get hr] at e; exact (List.cons.inj e).2
    · unfold paccM
      split
      · exact h
      · split
        · exact h
        · rename_i q _
          intro j hj
          refine ⟨?_, ?_⟩
          · by_cases hd : c.done = none
            · have hj : (if c.done = none then some i else c.done) = some j := hj
              rw [if_pos hd] at hj; cases hj; exact hi
            · have hj : (if c.done = none then some i else c.done) = some j := hj
              rw [if_neg hd] at hj; exact (h j hj).1
          · show (if q ∈ c.found then c.found else c.found ++ [q]) ≠ []
            split
            · rename_i hq; exact List.ne_nil_of_mem hq
            · simp
theorem pg_ok (rows : List RowM) (mode side : Str) (Q : List Str) : PgOk rows (pgM rows mode side Q) := pgF_ok rows rows 0 _ rfl fun i h => nomatch h
theorem paccM_le {mode side : Str} {Q : List Str} {i : Nat} {r : RowM} {c : PAcc} (h : c.found.length ≤ i) : (paccM mode side Q i r c).found.length ≤ i + 1 := by
  unfold paccM
  split
  · omega
  · split
    · omega
    · show (if _ then _ else _ : List Str).length ≤ _
      split
      · omega
      · simp; omega
section
variable {P : Program} {w : World} {K : PySem.W.Frag} {mg : Str → Option Value} {base : Heap}
theorem sc_step_led : FnScope ["side", "move", "part"] ["side", "move", "part"] (defScope (top 9)) := ⟨rfl, rfl, rfl, by decide +kernel, rfl, by decide +kernel, by decide +kernel⟩
theorem G_step_led (T : TF w K mg) (F : FnP K "step_led" "step_led" (top 9) (He.ga K "step_led")) (hm : mg "step_led" = some (.ref (He.ga K "step_led")))  : FnG P w K mg base "step_led" ["side", "move", "part"] 1 (S_step_led) := by
  refine fnG_of F hm sc_step_led (fun _ _ _ _ _ _ us hl => match us, hl with | [_, _, _], _ => rfl) ?_ ?_
  · (intro ds μ Φ h; first | (obtain ⟨_, rfl, _⟩ := h; rfl) | (obtain ⟨_, _, rfl, _⟩ := h; rfl) | (obtain ⟨_, _, _, rfl, _⟩ := h; rfl) | (obtain ⟨_, _, _, _, rfl, _⟩ := h; rfl) | (obtain ⟨_, _, _, _, _, rfl, _⟩ := h; rfl) | (obtain ⟨_, _, _, _, _, _, rfl, _⟩ := h; rfl))
  intro f cdv A outer s H E hr
  have nd := sc_step_led.nd
  refine ⟨_, (ss_cons (s_if (t_eq (q_var 1) q_str) (ss_one (s_ret (q_tup (a_cons q_str (a_cons (q_var 0) a_nil))))) ss_nil)
      (ss_cons (s_if (t_eq (q_var 1) q_str) (ss_one (s_ret (q_tup (a_cons (q_if (t_eq (q_var 0) q_str) q_str q_str) (a_cons q_str a_nil))))) ss_nil)
      (ss_cons (s_if (t_eq (q_var 2) q_str) (ss_one (s_ret (q_tup (a_cons q_str (a_cons (q_var 0) a_nil))))) ss_nil)
      (ss_cons (s_if (t_eq (q_var 0) q_str) (ss_one (s_ret (q_tup (a_cons (q_if (t_eq (q_var 2) q_str) q_str q_str) (a_cons q_str a_nil))))) ss_nil)
      (ss_cons (s_if (t_w (w_and (t_eq (q_var 0) q_str) (w_and1 (t_eq (q_var 2) q_str)))) (ss_one (s_ret (q_tup (a_cons q_str (a_cons q_str a_nil))))) ss_nil)
      (ss_one (s_ret (q_tup (a_cons q_str (a_cons (q_if (t_eq (q_var 2) q_str) q_str q_str) a_nil)))))))))), ?_⟩
  clear hr nd F hm
  rintro _ μ Φ ⟨side, move, part, rfl, h⟩
  ((repeat' ((conv => whnf) <;> first | refine And.intro rfl ?_ | (refine And.intro (fun hc => ?_) (fun hc => ?_) <;> first | (exact (tf_ hc).elim) | (exact (ft_ hc).elim) | skip) | refine @Exists.intro Mu _ _ (And.intro (fun _ _ e => e) ?_) | refine @Exists.intro (List V) _ _ (And.intro rfl ?_) | refine @Exists.intro PyData _ _ (And.intro rfl ?_))) <;> (try (conv => whnf)))
  all_goals simp_all [slM]
theorem sc_side_of : FnScope ["asker", "pointer"] ["asker", "pointer"] (defScope (top 40)) := ⟨rfl, rfl, rfl, by decide +kernel, rfl, by decide +kernel, by decide +kernel⟩
theorem G_side_of (T : TF w K mg) (F : FnP K "side_of" "side_of" (top 40) (He.ga K "side_of")) (hm : mg "side_of" = some (.ref (He.ga K "side_of")))  : FnG P w K mg base "side_of" ["asker", "pointer"] 1 (S_side_of) := by
  refine fnG_of F hm sc_side_of (fun _ _ _ _ _ _ us hl => match us, hl with | [_, _], _ => rfl) ?_ ?_
  · (intro ds μ Φ h; first | (obtain ⟨_, rfl, _⟩ := h; rfl) | (obtain ⟨_, _, rfl, _⟩ := h; rfl) | (obtain ⟨_, _, _, rfl, _⟩ := h; rfl) | (obtain ⟨_, _, _, _, rfl, _⟩ := h; rfl) | (obtain ⟨_, _, _, _, _, rfl, _⟩ := h; rfl) | (obtain ⟨_, _, _, _, _, _, rfl, _⟩ := h; rfl))
  intro f cdv A outer s H E hr
  have nd := sc_side_of.nd
  refine ⟨_, (ss_cons (s_if (t_isN (q_var 1)) (ss_one (s_ret q_str)) ss_nil)
      (ss_cons (s_if (t_eq (q_var 1) (q_var 0)) (ss_one (s_ret q_str)) ss_nil)
      (ss_one (s_ret (q_if (t_lt (q_var 1) (q_var 0)) q_str q_str))))), ?_⟩
  clear hr nd F hm
  rintro _ μ Φ ⟨a, p, rfl, h⟩
  rcases p with _ | p
  · ((repeat' ((conv => whnf) <;> first | refine And.intro rfl ?_ | (refine And.intro (fun hc => ?_) (fun hc => ?_) <;> first | (exact (tf_ hc).elim) | (exact (ft_ hc).elim) | skip) | refine @Exists.intro Mu _ _ (And.intro (fun _ _ e => e) ?_) | refine @Exists.intro (List V) _ _ (And.intro rfl ?_) | refine @Exists.intro PyData _ _ (And.intro rfl ?_))) <;> (try (conv => whnf)))
    all_goals simp_all [sideM]
  · ((repeat' ((conv => whnf) <;> first | refine And.intro rfl ?_ | (refine And.intro (fun hc => ?_) (fun hc => ?_) <;> first | (exact (tf_ hc).elim) | (exact (ft_ hc).elim) | skip) | refine @Exists.intro Mu _ _ (And.intro (fun _ _ e => e) ?_) | refine @Exists.intro (List V) _ _ (And.intro rfl ?_) | refine @Exists.intro PyData _ _ (And.intro rfl ?_))) <;> (try (conv => whnf)))
    all_goals simp_all [sideM, pD]
    · have hc1 : p = a := by omega
      rw [if_pos hc1] at h; exact h
    · have hc1 : ¬ p = a := by omega
      rw [if_neg hc1] at h; exact h
    · have hc1 : ¬ p = a := by omega
      have hc3 : ¬ p < a := by omega
      rw [if_neg hc1, if_neg hc3] at h; exact h
theorem sc_parts_granted : FnScope ["rule", "mode", "side", "asking", "found", "done", "at", "row", "part"] ["rule", "mode", "side", "asking"] (defScope (top 7)) := ⟨rfl, rfl, rfl, by decide +kernel, rfl, by decide +kernel, by decide +kernel⟩
theorem G_parts_granted (T : TF w K mg) (F : FnP K "parts_granted" "parts_granted" (top 7) (He.ga K "parts_granted")) (hm : mg "parts_granted" = some (.ref (He.ga K "parts_granted"))) (G_first_part : FnG P w K mg base "first_part" ["pick", "side", "asking"] 2 (S_first_part)) : FnG P w K mg base "parts_granted" ["rule", "mode", "side", "asking"] 3 ((S_parts_granted K)) := by
  refine fnG_of F hm sc_parts_granted (fun _ _ _ _ _ _ us hl => match us, hl with | [_, _, _, _], _ => rfl) ?_ ?_
  · (intro ds μ Φ h; first | (obtain ⟨_, rfl, _⟩ := h; rfl) | (obtain ⟨_, _, rfl, _⟩ := h; rfl) | (obtain ⟨_, _, _, rfl, _⟩ := h; rfl) | (obtain ⟨_, _, _, _, rfl, _⟩ := h; rfl) | (obtain ⟨_, _, _, _, _, rfl, _⟩ := h; rfl) | (obtain ⟨_, _, _, _, _, _, rfl, _⟩ := h; rfl))
  intro f cdv A outer s H E hr
  have nd := sc_parts_granted.nd
  refine ⟨_, (ss_cons (s_par 4 5 rfl nd (a_cons (q_lstM a_nil) (a_cons q_non a_nil)) rfl)
      (ss_cons (s_for PassesOwn.never rfl (i_enumT rfl (T.free "enumerate" (by simp)) (a_cons (q_fld (He.ga K "Rule") ["first", "rows", "modes"] 1 T.rule.cl (T.rule.na _ (by simp)) (q_var 0)) a_nil)) (g_tup rfl (gs_cons (g_name (i := 6) nd rfl (.inl rfl)) (gs_cons (g_name (i := 7) nd rfl (.inl rfl)) gs_nil))) (ss_cons (s_if (t_w (w_or (t_ne (q_fld (He.ga K "Row") ["mode", "pick", "move", "then", "also"] 0 T.row.cl (T.row.na _ (by simp)) (q_var 7)) (q_var 1)) (w_or1 (t_w (w_and (t_notN (q_var 5)) (w_and1 (t_not (t_val (q_fld (He.ga K "Row") ["mode", "pick", "move", "then", "also"] 4 T.row.cl (T.row.na _ (by simp)) (q_var 7)))))))))) (ss_one s_cont) ss_nil)
      (ss_cons (s_set 8 nd (q_call G_first_part (hr.mono (by decide)) rfl (a_cons (q_fld (He.ga K "Row") ["mode", "pick", "move", "then", "also"] 1 T.row.cl (T.row.na _ (by simp)) (q_var 7)) (a_cons (q_var 2) (a_cons (q_var 3) a_nil)))))
      (ss_cons (s_if (t_isN (q_var 8)) (ss_one s_cont) ss_nil)
      (ss_cons (s_if (t_isN (q_var 5)) (ss_one (s_set 5 nd (q_var 6))) ss_nil)
      (ss_one (s_if (t_cmp (op_notIn_seq) sim_in (q_var 8) (q_var 4) (by rfl)) (ss_one (s_expr (q_lm PySem.F.plainAttrs_list PySem.F.slot_list_append PySem.F.type_list_append mt_append simLm_app lmApp_mono (q_var 4) (a_cons (q_var 8) a_nil)))) ss_nil)))))))
      (ss_one (s_ret (q_tup (a_cons (q_var 5) (a_cons (q_cty call_tuple_of sim_tuple rfl (T.free "tuple" (by simp)) (by decide +kernel) (a_cons (q_var 4) a_nil)) a_nil))))))), ?_⟩
  clear hr nd F hm
  rintro _ μ Φ ⟨R, md, mode, side, Q, rfl, ⟨hrl, hrows⟩, hs, h⟩
  (conv => whnf)
  intro l hl0
  (conv => whnf)
  refine ⟨rfl, rfl, ?_⟩
  (conv => whnf)
  refine ⟨fun i ρ μ' => ∃ c : PAcc, (∀ a, a ≠ l → μ' a = μ a) ∧ μ' l = some (.lst (strsD c.found)) ∧ c.found.length ≤ i ∧ pgF mode side Q (R.rows.drop i) i c = pgM R.rows mode side Q ∧
    ∃ d6 d7 d8, ρ = [some (ruleD K R md), some (dS mode), some (dS side), some (tupS Q), some (dR l), some (pD c.done), d6, d7, d8],
    ⟨⟨none, []⟩, fun a ha => mup_ne ha, mup_same, Nat.le_refl 0, rfl, _, _, _, rfl⟩, ?_, ?_⟩
  · rintro i x ρ μ' hx ⟨c, hm, hml, hcl, hcc, d6, d7, d8, rfl⟩
    obtain ⟨r, hr, rfl⟩ := enum_get hx
    rw [drop_get hr] at hcc
    have hcc : pgF mode side Q (R.rows.drop (i + 1)) (i + 1) (paccM mode side Q i r c) = pgM R.rows mode side Q := hcc
    have hi := (List.getElem?_eq_some_iff.mp hr).1
    have hle := paccM_le (mode := mode) (side := side) (Q := Q) (r := r) hcl
    have hpick := (hrows r (List.mem_of_getElem? hr)).1
    obtain ⟨cd, cf⟩ := c
    have skip : r.mode ≠ mode ∨ (cd ≠ none ∧ r.also = false) → paccM mode side Q i r ⟨cd, cf⟩ = ⟨cd, cf⟩ := fun z => if_pos z
    (conv => whnf)
    refine ⟨rfl, rfl, ?_⟩
    rcases cd with _ | j
    · ((repeat' ((conv => whnf) <;> first | refine And.intro rfl ?_ | (refine And.intro (fun hc => ?_) (fun hc => ?_) <;> first | (exact (tf_ hc).elim) | (exact (ft_ hc).elim) | skip) | refine @Exists.intro Mu _ _ (And.intro (fun _ _ e => e) ?_) | refine @Exists.intro (List V) _ _ (And.intro rfl ?_) | refine @Exists.intro PyData _ _ (And.intro rfl ?_))) <;> (try (conv => whnf)))
      · have e := skip (.inl (by simp_all))
        rw [e] at hcc hle
        exact ⟨⟨none, cf⟩, hm, hml, hle, hcc, _, _, _, rfl⟩
      · have hgo : ¬ (r.mode ≠ mode ∨ ((none : Option Nat) ≠ none ∧ r.also = false)) := by simp_all
        refine ⟨r.pick, side, Q, rfl, hpick, hs, ?_⟩
        (conv => whnf)
        cases hf : fpM r.pick side Q with
        | none =>
          have e : paccM mode side Q i r ⟨none, cf⟩ = ⟨none, cf⟩ := by unfold paccM; rw [if_neg hgo, hf]
          rw [e] at hcc hle
          (conv => whnf)
          refine ⟨fun _ => ?_, fun z => (tf_ z).elim⟩
          exact ⟨⟨none, cf⟩, hm, hml, hle, hcc, _, _, _, rfl⟩
        | some q =>
          have e : paccM mode side Q i r ⟨none, cf⟩ = ⟨some i, if q ∈ cf then cf else cf ++ [q]⟩ := by unfold paccM; rw [if_neg hgo, hf] <;> rfl
          rw [e] at hcc hle
          have hin : inV (.str q) (cf.map V.str) = decide (q ∈ cf) := inV_str
          (conv => whnf)
          refine ⟨fun z => (ft_ z).elim, fun _ => ?_⟩
          (conv => whnf)
          refine ⟨fun _ => ?_, fun z => (tf_ z).elim⟩
          (conv => whnf)
          refine ⟨rfl, _, hml, cf.map V.str, flats_str cf, ?_⟩
          refine ⟨fun hc => ?_, fun hc => ?_⟩
          · have hc : (!inV (.str q) (cf.map V.str)) = true := hc
            rw [hin] at hc
            have hq : q ∉ cf := by simpa using hc
            rw [if_neg hq] at hcc hle
            (conv => whnf)
            refine ⟨⟨_, hml⟩, ?_⟩
            (conv => whnf)
            refine ⟨_, hml, ?_⟩
            (conv => whnf)
            refine lenOk.mk (by have : cf.length ≤ i := hcl; simp [strsD]; omega) ?_
            refine ⟨⟨some i, cf ++ [q]⟩, fun a ha => (mup_ne ha).trans (hm a ha), ?_, hle, hcc, _, _, _, rfl⟩
            rw [mup_same]
            show some (MO.lst (strsD cf ++ [dS q])) = some (MO.lst (strsD (cf ++ [q])))
            unfold strsD
            rw [List.map_append] <;> rfl
          · have hc : (!inV (.str q) (cf.map V.str)) = false := hc
            rw [hin] at hc
            have hq : q ∈ cf := by simpa using hc
            rw [if_pos hq] at hcc hle
            exact ⟨⟨some i, cf⟩, hm, hml, hle, hcc, _, _, _, rfl⟩
    · ((repeat' ((conv => whnf) <;> first | refine And.intro rfl ?_ | (refine And.intro (fun hc => ?_) (fun hc => ?_) <;> first | (exact (tf_ hc).elim) | (exact (ft_ hc).elim) | skip) | refine @Exists.intro Mu _ _ (And.intro (fun _ _ e => e) ?_) | refine @Exists.intro (List V) _ _ (And.intro rfl ?_) | refine @Exists.intro PyData _ _ (And.intro rfl ?_))) <;> (try (conv => whnf)))
      · have e := skip (.inl (by simp_all))
        rw [e] at hcc hle
        exact ⟨⟨some j, cf⟩, hm, hml, hle, hcc, _, _, _, rfl⟩
      · have e := skip (.inr (by simp_all))
        rw [e] at hcc hle
        exact ⟨⟨some j, cf⟩, hm, hml, hle, hcc, _, _, _, rfl⟩
      · have hgo : ¬ (r.mode ≠ mode ∨ ((some j : Option Nat) ≠ none ∧ r.also = false)) := by simp_all
        refine ⟨r.pick, side, Q, rfl, hpick, hs, ?_⟩
        (conv => whnf)
        cases hf : fpM r.pick side Q with
        | none =>
          have e : paccM mode side Q i r ⟨some j, cf⟩ = ⟨some j, cf⟩ := by unfold paccM; rw [if_neg hgo, hf]
          rw [e] at hcc hle
          (conv => whnf)
          refine ⟨fun _ => ?_, fun z => (tf_ z).elim⟩
          exact ⟨⟨some j, cf⟩, hm, hml, hle, hcc, _, _, _, rfl⟩
        | some q =>
          have e : paccM mode side Q i r ⟨some j, cf⟩ = ⟨some j, if q ∈ cf then cf else cf ++ [q]⟩ := by unfold paccM; rw [if_neg hgo, hf] <;> rfl
          rw [e] at hcc hle
          have hin : inV (.str q) (cf.map V.str) = decide (q ∈ cf) := inV_str
          (conv => whnf)
          refine ⟨fun z => (ft_ z).elim, fun _ => ?_⟩
          (conv => whnf)
          refine ⟨fun z => (ft_ z).elim, fun _ => ?_⟩
          (conv => whnf)
          refine ⟨rfl, _, hml, cf.map V.str, flats_str cf, ?_⟩
          refine ⟨fun hc => ?_, fun hc => ?_⟩
          · have hc : (!inV (.str q) (cf.map V.str)) = true := hc
            rw [hin] at hc
            have hq : q ∉ cf := by simpa using hc
            rw [if_neg hq] at hcc hle
            (conv => whnf)
            refine ⟨⟨_, hml⟩, ?_⟩
            (conv => whnf)
            refine ⟨_, hml, ?_⟩
            (conv => whnf)
            refine lenOk.mk (by have : cf.length ≤ i := hcl; simp [strsD]; omega) ?_
            refine ⟨⟨some j, cf ++ [q]⟩, fun a ha => (mup_ne ha).trans (hm a ha), ?_, hle, hcc, _, _, _, rfl⟩
            rw [mup_same]
            show some (MO.lst (strsD cf ++ [dS q])) = some (MO.lst (strsD (cf ++ [q])))
            unfold strsD
            rw [List.map_append] <;> rfl
          · have hc : (!inV (.str q) (cf.map V.str)) = false := hc
            rw [hin] at hc
            have hq : q ∈ cf := by simpa using hc
            rw [if_pos hq] at hcc hle
            exact ⟨⟨some j, cf⟩, hm, hml, hle, hcc, _, _, _, rfl⟩
      all_goals (first | exact (tf_ ‹_›).elim | exact (ft_ ‹_›).elim)
  · rintro ρ μ' ⟨c, hm, hml, hcl, hcc, d6, d7, d8, rfl⟩
    rw [List.drop_eq_nil_of_le (by rw [enumD_len, List.length_map]; exact Nat.le_refl _)] at hcc
    have hcc : c = pgM R.rows mode side Q := hcc
    subst hcc
    (conv => whnf)
    refine ⟨_, hml, ?_⟩
    (conv => whnf)
    refine ⟨μ, fun a u e => ?_, h⟩
    have ne : a ≠ l := fun z => by rw [z, hl0] at e; cases e
    rw [hm a ne]; exact e
end
end K3
set_option Elab.async false
set_option linter.all false
set_option maxRecDepth 100000
set_option maxHeartbeats 800000
set_option pp.maxSteps 600
/-! KG9: rounds in vain by parts; places. -/
namespace K3
open PySem PySem.Spec PyProof.Rows L2
theorem lots_len {side : Str} (h : side ∈ sidesL) : (lotsM side).length ≤ 16 ∧ ∀ Q ∈ lotsM side, Q.length ≤ 4 := by
  rcases side_cases h with rfl | rfl | rfl | rfl <;> exact ⟨by decide, by decide⟩
theorem atI_nat {xs : List D} {i : Nat} {d : D} (h : xs[i]? = some d) : atI xs (i : Int) = some d := by
  have hl := (List.getElem?_eq_some_iff.mp h).1
  have e : ixN xs.length (i : Int) = some i := by
    unfold ixN
    rw [if_pos (Int.natCast_nonneg i), if_pos (by omega)] <;> simp
  unfold atI
  rw [e]
  exact h
section
variable {P : Program} {w : World} {K : PySem.W.Frag} {mg : Str → Option Value} {base : Heap}
theorem sc_vain_rounds : FnScope ["rule", "mode", "side", "found", "asking", "at", "granted", "row", "step", "later"] ["rule", "mode", "side"] (defScope (top 10)) := ⟨rfl, rfl, rfl, by decide +kernel, rfl, by decide +kernel, by decide +kernel⟩
theorem G_vain_rounds (T : TF w K mg) (F : FnP K "vain_rounds" "vain_rounds" (top 10) (He.ga K "vain_rounds")) (hm : mg "vain_rounds" = some (.ref (He.ga K "vain_rounds"))) (G_lots : FnG P w K mg base "lots" ["side"] 2 (S_lots)) (G_parts_granted : FnG P w K mg base "parts_granted" ["rule", "mode", "side", "asking"] 3 ((S_parts_granted K))) (G_step_led : FnG P w K mg base "step_led" ["side", "move", "part"] 1 (S_step_led)) : FnG P w K mg base "vain_rounds" ["rule", "mode", "side"] 4 ((S_vain_rounds K)) := by
  refine fnG_of F hm sc_vain_rounds (fun _ _ _ _ _ _ us hl => match us, hl with | [_, _, _], _ => rfl) ?_ ?_
  · (intro ds μ Φ h; first | (obtain ⟨_, rfl, _⟩ := h; rfl) | (obtain ⟨_, _, rfl, _⟩ := h; rfl) | (obtain ⟨_, _, _, rfl, _⟩ := h; rfl) | (obtain ⟨_, _, _, _, rfl, _⟩ := h; rfl) | (obtain ⟨_, _, _, _, _, rfl, _⟩ := h; rfl) | (obtain ⟨_, _, _, _, _, _, rfl, _⟩ := h; rfl))
  intro f cdv A outer s H E hr
  have nd := sc_vain_rounds.nd
  refine ⟨_, (ss_cons (s_set 3 nd (q_lstM a_nil))
      (ss_cons (s_for PassesOwn.never rfl (i_list (q_call G_lots (hr.mono (by decide)) rfl (a_cons (q_var 2) a_nil))) (g_name (i := 4) nd rfl (.inl rfl)) (ss_cons (s_asg (q_call G_parts_granted (hr.mono (by decide)) rfl (a_cons (q_var 0) (a_cons (q_var 1) (a_cons (q_var 2) (a_cons (q_tup (a_star (q_var 4) (a_cons (q_gS rfl T.me) a_nil))) a_nil))))) (g_tup rfl (gs_cons (g_name (i := 5) nd rfl (.inl rfl)) (gs_cons (g_name (i := 6) nd rfl (.inl rfl)) gs_nil))))
      (ss_cons (s_if (t_cmp (op_in_seq) sim_in (q_gS rfl T.me) (q_var 6) (by rfl)) (ss_one s_cont) ss_nil)
      (ss_cons (s_if (t_isN (q_var 5)) (ss_cons (s_expr (q_lm PySem.F.plainAttrs_list PySem.F.slot_list_append PySem.F.type_list_append mt_append simLm_app lmApp_mono (q_var 3) (a_cons (q_tup (a_cons (q_var 4) (a_cons q_non (a_cons q_str (a_cons (q_var 1) (a_cons (q_var 2) a_nil)))))) a_nil)))
      (ss_one s_cont)) ss_nil)
      (ss_cons (s_set 7 nd (q_ix (q_fld (He.ga K "Rule") ["first", "rows", "modes"] 1 T.rule.cl (T.rule.na _ (by simp)) (q_var 0)) (q_var 5)))
      (ss_cons (s_asg (q_call G_step_led (hr.mono (by decide)) rfl (a_cons (q_var 2) (a_cons (q_fld (He.ga K "Row") ["mode", "pick", "move", "then", "also"] 2 T.row.cl (T.row.na _ (by simp)) (q_var 7)) (a_cons (q_ix (q_var 6) q_int) a_nil)))) (g_tup rfl (gs_cons (g_name (i := 8) nd rfl (.inl rfl)) (gs_cons (g_name (i := 9) nd rfl (.inl rfl)) gs_nil))))
      (ss_one (s_expr (q_lm PySem.F.plainAttrs_list PySem.F.slot_list_append PySem.F.type_list_append mt_append simLm_app lmApp_mono (q_var 3) (a_cons (q_tup (a_cons (q_var 4) (a_cons (q_ix (q_var 6) q_int) (a_cons (q_var 8) (a_cons (q_fld (He.ga K "Row") ["mode", "pick", "move", "then", "also"] 3 T.row.cl (T.row.na _ (by simp)) (q_var 7)) (a_cons (q_var 9) a_nil)))))) a_nil))))))))))
      (ss_one (s_retF (q_var 3))))), ?_⟩
  clear hr nd F hm
  rintro _ μ Φ ⟨R, md, mode, side, rfl, hrok, hs, h⟩
  obtain ⟨hl1, hl2⟩ := lots_len hs
  (conv => whnf)
  intro l hl0
  (conv => whnf)
  refine ⟨side, rfl, hs, ?_⟩
  (conv => whnf)
  refine ⟨fun i ρ μ' => ∃ acc : List VR, (∀ a, a ≠ l → μ' a = μ a) ∧ μ' l = some (.lst (acc.map vrD)) ∧ acc.length ≤ i ∧ acc = ((lotsM side).take i).filterMap (vr1 R.rows mode side) ∧
    ∃ d4 d5 d6 d7 d8 d9, ρ = [some (ruleD K R md), some (dS mode), some (dS side), some (dR l), d4, d5, d6, d7, d8, d9],
    ⟨[], fun a ha => mup_ne ha, mup_same, Nat.le_refl 0, rfl, _, _, _, _, _, _, rfl⟩, ?_, ?_⟩
  · rintro i x ρ μ' hx ⟨acc, hm, hml, hal, hacc, d4, d5, d6, d7, d8, d9, rfl⟩
    obtain ⟨Q, hQ, rfl⟩ := map_get hx
    have hQl := hl2 Q (List.mem_of_getElem? hQ)
    have hi := (List.getElem?_eq_some_iff.mp hQ).1
    have nxt : ((lotsM side).take (i + 1)).filterMap (vr1 R.rows mode side) = acc ++ (match vr1 R.rows mode side Q with | none => [] | some v => [v]) := by
      rw [take_get hQ, List.filterMap_append, ← hacc]
      cases e : vr1 R.rows mode side Q <;> simp [e]
    (conv => whnf)
    refine lenOk.mk (by simp; omega) ?_
    (conv => whnf)
    refine ⟨R, md, mode, side, Q ++ [("w" : Str)], by simp [tupS], hrok, hs, ?_⟩
    obtain ⟨c, hc⟩ : ∃ c, c = pgM R.rows mode side (Q ++ [("w" : Str)]) := ⟨_, rfl⟩
    have hpg := pg_ok R.rows mode side (Q ++ [("w" : Str)])
    have hv : vr1 R.rows mode side Q = if ("w" : Str) ∈ c.found then none
      else match c.done with
        | none => some ⟨Q, none, "still", mode, side⟩
        | some i => match R.rows[i]?, c.found[0]? with
          | some r, some q => some ⟨Q, some q, (slM side r.move q).1, r.thn, (slM side r.move q).2⟩
          | _, _ => none := by rw [hc] <;> rfl
    rw [← hc] at hpg ⊢
    have hin : inV (.str "w") (c.found.map V.str) = decide (("w" : Str) ∈ c.found) := inV_str
    (conv => whnf)
    refine ⟨rfl, c.found.map V.str, flats_str _, ?_⟩
    refine ⟨fun hc1 => ?_, fun hc1 => ?_⟩
    · have hc1 : inV (.str "w") (c.found.map V.str) = true := hc1
      rw [hin] at hc1
      rw [if_pos (of_decide_eq_true hc1)] at hv
      rw [hv] at nxt
      (conv => whnf)
      exact ⟨acc, hm, hml, by omega, by rw [nxt, List.append_nil], _, _, _, _, _, _, rfl⟩
    · have hc1 : inV (.str "w") (c.found.map V.str) = false := hc1
      rw [hin] at hc1
      rw [if_neg (of_decide_eq_false hc1)] at hv
      cases hd : c.done with
      | none =>
        rw [hd] at hv
        rw [hv] at nxt
        (conv => whnf)
        refine ⟨fun _ => ?_, fun z => (tf_ z).elim⟩
        (conv => whnf)
        refine ⟨⟨_, hml⟩, ?_⟩
        (conv => whnf)
        refine ⟨_, hml, ?_⟩
        (conv => whnf)
        refine lenOk.mk (by simp; omega) ?_
        (conv => whnf)
        refine ⟨acc ++ [⟨Q, none, "still", mode, side⟩], fun a ha => (mup_ne ha).trans (hm a ha), ?_, by simp; omega, nxt.symm, _, _, _, _, _, _, rfl⟩
        rw [mup_same, List.map_append] <;> rfl
      | some at_ =>
        obtain ⟨h1, h2⟩ := hpg at_ hd
        have hr : R.rows[at_]? = some R.rows[at_] := List.getElem?_eq_getElem h1
        have hf : ∃ q, c.found[0]? = some q := by
          cases e : c.found with
          | nil => exact absurd e h2
          | cons q qs => exact ⟨q, rfl⟩
        obtain ⟨q, hq⟩ := hf
        rw [hd] at hv
        have hv : vr1 R.rows mode side Q = match R.rows[at_]?, c.found[0]? with
          | some r, some q => some ⟨Q, some q, (slM side r.move q).1, r.thn, (slM side r.move q).2⟩
          | _, _ => none := hv
        rw [hr, hq] at hv
        rw [hv] at nxt
        have e1 : atI (R.rows.map (rowD K)) (at_ : Int) = some (rowD K R.rows[at_]) := atI_nat (by rw [List.getElem?_map, hr] <;> rfl)
        have e2 : atI (c.found.map dS) (0 : Int) = some (dS q) := atI_nat (i := 0) (by rw [List.getElem?_map, hq] <;> rfl)
        (conv => whnf)
        refine ⟨fun z => (ft_ z).elim, fun _ => ?_⟩
        (conv => whnf)
        refine ⟨rfl, rfl, ?_⟩
        (conv => whnf)
        (split; rotate_left; (rename_i e_; exact nomatch ((e1).symm.trans e_)); rename_i ts_ e_; cases ((e1).symm.trans e_))
        (conv => whnf)
        refine ⟨rfl, rfl, ?_⟩
        (conv => whnf)
        (split; rotate_left; (rename_i e_; exact nomatch ((e2).symm.trans e_)); rename_i ts_ e_; cases ((e2).symm.trans e_))
        (conv => whnf)
        refine ⟨side, R.rows[at_].move, q, rfl, ?_⟩
        (conv => whnf)
        refine ⟨⟨_, hml⟩, ?_⟩
        (conv => whnf)
        (split; rotate_left; (rename_i e_; exact nomatch ((e2).symm.trans e_)); rename_i ts_ e_; cases ((e2).symm.trans e_))
        (conv => whnf)
        refine ⟨rfl, rfl, ?_⟩
        (conv => whnf)
        refine ⟨_, hml, ?_⟩
        (conv => whnf)
        refine lenOk.mk (by simp; omega) ?_
        (conv => whnf)
        refine ⟨acc ++ [⟨Q, some q, (slM side R.rows[at_].move q).1, R.rows[at_].thn, (slM side R.rows[at_].move q).2⟩], fun a ha => (mup_ne ha).trans (hm a ha), ?_, by simp; omega, nxt.symm, _, _, _, _, _, _, rfl⟩
        rw [mup_same, List.map_append] <;> rfl
  · rintro ρ μ' ⟨acc, hm, hml, hal, hacc, d4, d5, d6, d7, d8, d9, rfl⟩
    rw [List.length_map, List.take_of_length_le (Nat.le_refl _)] at hacc
    (conv => whnf)
    refine ⟨l, _, rfl, hml, hl0, μ, fun a u e => ?_, ?_⟩
    · have ne : a ≠ l := fun z => by rw [z, hl0] at e; cases e
      rw [mdel_ne ne, hm a ne]; exact e
    · rw [hacc]; exact h
end
end K3
set_option Elab.async false
set_option linter.all false
set_option maxRecDepth 100000
set_option maxHeartbeats 800000
set_option pp.maxSteps 600
/-! KG10: places, Beside. -/
namespace K3
open PySem PySem.Spec PyProof.Rows L2
def ivD (e : Nat × Nat) : D := .tup [dI (e.1 : Nat), dI (e.2 : Nat)]
def plL (a n : Nat) (p : Option Nat) : List (Str × Nat × Nat) := match p with
  | none => [("under", 0, a), ("past", a + 1, n)]
  | some i => if i = a then [("under", 0, a), ("past", a + 1, n)]
    else if i < a then [("under", 0, i), ("past", a + 1, n), ("point", i, i + 1), ("between", i + 1, a)]
    else [("under", 0, a), ("past", i + 1, n), ("between", a + 1, i), ("point", i, i + 1)]
def ivM (a n : Nat) (p : Option Nat) (q : Str) : Option (Nat × Nat) := ((plL a n p).find? fun e => decide (e.1 = q)).map (·.2)
def plD (a n : Nat) (p : Option Nat) : List (Str × D) := (plL a n p).map fun e => (e.1, ivD e.2)
theorem lookN_pl (a n : Nat) (p : Option Nat) (q : Str) : lookN (plD a n p) q = (ivM a n p q).map ivD := by
  unfold lookN plD ivM
  generalize plL a n p = xs
  induction xs with
  | nil => rfl
  | cons e xs ih =>
    rw [List.map_cons, List.find?_cons, List.find?_cons]
    by_cases h : e.1 = q
    · simp [h]
    · simp only [h, decide_false]; exact ih
def S_places : DSp := fun xs μ Φ => ∃ (a n : Nat) (p : Option Nat), xs = [dI (a : Int), dI (n : Int), pD p] ∧ Φ (.dks (plD a n p)) μ
section
variable {P : Program} {w : World} {K : PySem.W.Frag} {mg : Str → Option Value} {base : Heap}
theorem sc_places : FnScope ["asker", "askers", "pointer", "found", "side"] ["asker", "askers", "pointer"] (defScope (top 41)) := ⟨rfl, rfl, rfl, by decide +kernel, rfl, by decide +kernel, by decide +kernel⟩
theorem G_places (T : TF w K mg) (F : FnP K "places" "places" (top 41) (He.ga K "places")) (hm : mg "places" = some (.ref (He.ga K "places"))) (G_side_of : FnG P w K mg base "side_of" ["asker", "pointer"] 1 (S_side_of)) : FnG P w K mg base "places" ["asker", "askers", "pointer"] 2 (S_places) := by
  refine fnG_of F hm sc_places (fun _ _ _ _ _ _ us hl => match us, hl with | [_, _, _], _ => rfl) ?_ ?_
  · (intro ds μ Φ h; first | (obtain ⟨_, rfl, _⟩ := h; rfl) | (obtain ⟨_, _, rfl, _⟩ := h; rfl) | (obtain ⟨_, _, _, rfl, _⟩ := h; rfl) | (obtain ⟨_, _, _, _, rfl, _⟩ := h; rfl) | (obtain ⟨_, _, _, _, _, rfl, _⟩ := h; rfl) | (obtain ⟨_, _, _, _, _, _, rfl, _⟩ := h; rfl))
  intro f cdv A outer s H E hr
  have nd := sc_places.nd
  refine ⟨_, (ss_cons (s_set 3 nd (q_dispM (ps_cons q_str (q_tup (a_cons q_int (a_cons (q_var 0) a_nil))) (ps_cons q_str (q_tup (a_cons (q_add (q_var 0) q_int) (a_cons (q_var 1) a_nil))) ps_nil))))
      (ss_cons (s_set 4 nd (q_call G_side_of (hr.mono (by decide)) rfl (a_cons (q_var 0) (a_cons (q_var 2) a_nil))))
      (ss_cons (s_if (t_eq (q_var 4) q_str) (ss_one (s_expr (q_upd (q_var 3) (a_cons (q_dispM (ps_cons q_str (q_tup (a_cons q_int (a_cons (q_var 2) a_nil))) (ps_cons q_str (q_tup (a_cons (q_var 2) (a_cons (q_add (q_var 2) q_int) a_nil))) (ps_cons q_str (q_tup (a_cons (q_add (q_var 2) q_int) (a_cons (q_var 0) a_nil))) ps_nil)))) a_nil)))) ss_nil)
      (ss_cons (s_if (t_eq (q_var 4) q_str) (ss_one (s_expr (q_upd (q_var 3) (a_cons (q_dispM (ps_cons q_str (q_tup (a_cons (q_add (q_var 0) q_int) (a_cons (q_var 2) a_nil))) (ps_cons q_str (q_tup (a_cons (q_var 2) (a_cons (q_add (q_var 2) q_int) a_nil))) (ps_cons q_str (q_tup (a_cons (q_add (q_var 2) q_int) (a_cons (q_var 1) a_nil))) ps_nil)))) a_nil)))) ss_nil)
      (ss_one (s_retF (q_var 3))))))), ?_⟩
  clear hr nd F hm
  rintro _ μ Φ ⟨a, n, p, rfl, h⟩
  (conv => whnf)
  intro l hl0
  (conv => whnf)
  refine ⟨Nat.le_of_ble_eq_true rfl, mup_same, ?_⟩
  (conv => whnf)
  refine ⟨a, p, rfl, ?_⟩
  have off : ∀ (o1 o2 : MO) (m : Addr), (∀ b u, μ b = some u → mdel (mup (mup μ l o1) l o2) l b = some u) := fun o1 o2 m b u e => by
    have ne : b ≠ l := fun z => by rw [z, hl0] at e; cases e
    rw [mdel_ne ne, mup_ne ne, mup_ne ne]; exact e
  rcases p with _ | p
  · ((repeat' ((conv => whnf) <;> first | refine And.intro rfl ?_ | (refine And.intro (fun hc => ?_) (fun hc => ?_) <;> first | (exact (tf_ hc).elim) | (exact (ft_ hc).elim) | skip) | refine @Exists.intro Mu _ _ (And.intro (fun _ _ e => e) ?_) | refine @Exists.intro (List V) _ _ (And.intro rfl ?_) | refine @Exists.intro PyData _ _ (And.intro rfl ?_))) <;> (try (conv => whnf)))
    refine ⟨l, _, rfl, mup_same, hl0, μ, off _ _ l, h⟩
  · by_cases h1 : p = a
    · have e : sideM a (some p) = "here" := if_pos h1
      have e2 : plD a n (some p) = plD a n none := by unfold plD plL; simp only [if_pos h1]
      rw [e2] at h
      rw [e]
      ((repeat' ((conv => whnf) <;> first | refine And.intro rfl ?_ | (refine And.intro (fun hc => ?_) (fun hc => ?_) <;> first | (exact (tf_ hc).elim) | (exact (ft_ hc).elim) | skip) | refine @Exists.intro Mu _ _ (And.intro (fun _ _ e => e) ?_) | refine @Exists.intro (List V) _ _ (And.intro rfl ?_) | refine @Exists.intro PyData _ _ (And.intro rfl ?_))) <;> (try (conv => whnf)))
      refine ⟨l, _, rfl, mup_same, hl0, μ, off _ _ l, h⟩
    · by_cases h2 : p < a
      · have e : sideM a (some p) = "low" := by unfold sideM; simp only [if_neg h1, if_pos h2]
        have e2 : plL a n (some p) = ([("under", 0, p), ("past", a + 1, n), ("point", p, p + 1), ("between", p + 1, a)] : List (Str × Nat × Nat)) := by unfold plL; simp only [if_neg h1, if_pos h2]
        unfold plD at h
        rw [e2] at h
        rw [e]
        ((repeat' ((conv => whnf) <;> first | refine And.intro rfl ?_ | (refine And.intro (fun hc => ?_) (fun hc => ?_) <;> first | (exact (tf_ hc).elim) | (exact (ft_ hc).elim) | skip) | refine @Exists.intro Mu _ _ (And.intro (fun _ _ e => e) ?_) | refine @Exists.intro (List V) _ _ (And.intro rfl ?_) | refine @Exists.intro PyData _ _ (And.intro rfl ?_))) <;> (try (conv => whnf)))
        refine ⟨⟨_, mup_same⟩, ?_⟩
        (conv => whnf)
        intro q hq
        have nq : q ≠ l := fun z => by rw [z, mup_same] at hq; cases hq
        (conv => whnf)
        refine ⟨Nat.le_of_ble_eq_true rfl, mup_same, ?_⟩
        refine ⟨nq.symm, _, _, (mup_ne nq.symm).trans ((mup_ne nq.symm).trans mup_same), mup_same, ?_⟩
        ((repeat' ((conv => whnf) <;> first | refine And.intro rfl ?_ | (refine And.intro (fun hc => ?_) (fun hc => ?_) <;> first | (exact (tf_ hc).elim) | (exact (ft_ hc).elim) | skip) | refine @Exists.intro Mu _ _ (And.intro (fun _ _ e => e) ?_) | refine @Exists.intro (List V) _ _ (And.intro rfl ?_) | refine @Exists.intro PyData _ _ (And.intro rfl ?_))) <;> (try (conv => whnf)))
        refine ⟨l, _, rfl, mup_same, hl0, μ, fun b u e => ?_, h⟩
        have ne : b ≠ l := fun z => by rw [z, hl0] at e; cases e
        have nb : b ≠ q := fun z => by
          rw [mup_ne nq, mup_ne nq] at hq
          rw [z, hq] at e; cases e
        rw [mdel_ne ne, mup_ne ne, mup_ne nb, mup_ne nb, mup_ne ne, mup_ne ne]; exact e
      · have e : sideM a (some p) = "high" := by unfold sideM; simp only [if_neg h1, if_neg h2]
        have e2 : plL a n (some p) = ([("under", 0, a), ("past", p + 1, n), ("between", a + 1, p), ("point", p, p + 1)] : List (Str × Nat × Nat)) := by unfold plL; simp only [if_neg h1, if_neg h2]
        unfold plD at h
        rw [e2] at h
        rw [e]
        ((repeat' ((conv => whnf) <;> first | refine And.intro rfl ?_ | (refine And.intro (fun hc => ?_) (fun hc => ?_) <;> first | (exact (tf_ hc).elim) | (exact (ft_ hc).elim) | skip) | refine @Exists.intro Mu _ _ (And.intro (fun _ _ e => e) ?_) | refine @Exists.intro (List V) _ _ (And.intro rfl ?_) | refine @Exists.intro PyData _ _ (And.intro rfl ?_))) <;> (try (conv => whnf)))
        refine ⟨⟨_, mup_same⟩, ?_⟩
        (conv => whnf)
        intro q hq
        have nq : q ≠ l := fun z => by rw [z, mup_same] at hq; cases hq
        (conv => whnf)
        refine ⟨Nat.le_of_ble_eq_true rfl, mup_same, ?_⟩
        refine ⟨nq.symm, _, _, (mup_ne nq.symm).trans ((mup_ne nq.symm).trans mup_same), mup_same, ?_⟩
        ((repeat' ((conv => whnf) <;> first | refine And.intro rfl ?_ | (refine And.intro (fun hc => ?_) (fun hc => ?_) <;> first | (exact (tf_ hc).elim) | (exact (ft_ hc).elim) | skip) | refine @Exists.intro Mu _ _ (And.intro (fun _ _ e => e) ?_) | refine @Exists.intro (List V) _ _ (And.intro rfl ?_) | refine @Exists.intro PyData _ _ (And.intro rfl ?_))) <;> (try (conv => whnf)))
        refine ⟨l, _, rfl, mup_same, hl0, μ, fun b u e => ?_, h⟩
        have ne : b ≠ l := fun z => by rw [z, hl0] at e; cases e
        have nb : b ≠ q := fun z => by
          rw [mup_ne nq, mup_ne nq] at hq
          rw [z, hq] at e; cases e
        rw [mdel_ne ne, mup_ne ne, mup_ne nb, mup_ne nb, mup_ne ne, mup_ne ne]; exact e
end
end K3
set_option Elab.async false
set_option linter.all false
set_option maxRecDepth 100000
set_option maxHeartbeats 800000
set_option pp.maxSteps 600
/-! KG11: Beside: its making, the rounds told. -/
namespace K3
open PySem PySem.Spec PyProof.Rows L2
abbrev LBeside : List Str := ["rule", "askers", "asker", "known"]
def S_Beside (K : PySem.W.Frag) : DSp := fun xs μ Φ => ∃ (p : Addr) (d1 d2 d3 : D), xs = [dR p, d1, d2, d3] ∧ μ p = some (.ob (He.ga K "Beside") [] []) ∧
  ∀ μ' kk, μ kk = none → kk ≠ p → (∀ a, a ≠ p → a ≠ kk → μ' a = μ a) → μ' p = some (.ob (He.ga K "Beside") LBeside [d1, d2, d3, dR kk]) → μ' kk = some (.dct []) → Φ dN μ'
def besD (K : PySem.W.Frag) (R : RuleM) (md : D) (n a : Nat) (kk : Addr) : D := .ob (He.ga K "Beside") LBeside [ruleD K R md, dI (n : Int), dI (a : Int), dR kk]
def modesU (R : RuleM) : List Str := R.first :: R.rows.map (·.thn)
structure KnOk (R : RuleM) (ks : List (Str × Str)) : Prop where
  nd : ks.Nodup
  un : ∀ q ∈ ks, q.1 ∈ modesU R ∧ q.2 ∈ sidesL
theorem KnOk.len {R : RuleM} {ks : List (Str × Str)} (h : KnOk R ks) : ks.length ≤ (R.rows.length + 1) * 4 := by
  have := nodup_le (m := (modesU R).flatMap fun m => sidesL.map fun s => (m, s)) h.nd fun q hq => by
    rw [List.mem_flatMap]
    exact ⟨q.1, (h.un q hq).1, List.mem_map.mpr ⟨q.2, (h.un q hq).2, rfl⟩⟩
  rw [List.length_flatMap] at this
  simp only [List.length_map] at this
  rw [List.map_const', List.sum_replicate_nat] at this
  simpa [modesU, sidesL] using this
def knK (q : Str × Str) : List Leaf := [.text q.1, .text q.2]
def knD (R : RuleM) (ks : List (Str × Str)) : List (List Leaf × D) := ks.map fun q => (knK q, .lst ((vrM R.rows q.1 q.2).map vrD))
theorem knK_inj {q r : Str × Str} (h : knK q = knK r) : q = r := by
  unfold knK at h
  simp at h
  exact Prod.ext h.1 h.2
theorem look_kn {R : RuleM} {q : Str × Str} : ∀ {ks : List (Str × Str)}, lookD (knD R ks) (knK q) = if q ∈ ks then some (.lst ((vrM R.rows q.1 q.2).map vrD)) else none
  | [] => rfl
  | r :: ks => by
    unfold lookD knD
    rw [List.map_cons, List.find?_cons]
    by_cases h : r = q
    · subst h; simp
    · have h2 : ¬ knK r = knK q := fun z => h (knK_inj z)
      have h3 : ¬ q = r := fun z => h z.symm
      simp only [h2, decide_false]
      have ih := look_kn (R := R) (q := q) (ks := ks)
      unfold lookD knD at ih
      rw [ih]
      simp [h3]
theorem mup_id {μ : Mu} {a : Addr} {o : MO} (h : μ a = some o) : mup μ a o = μ := by
  funext b
  by_cases e : b = a
  · subst e; rw [mup_same, h]
  · rw [mup_ne e]
def S_rounds_told (K : PySem.W.Frag) : DSp := fun xs μ Φ => ∃ (R : RuleM) (md : D) (n a : Nat) (kk : Addr) (mode side : Str) (ks : List (Str × Str)), xs = [besD K R md n a kk, dS mode, dS side] ∧ μ kk = some (.dct (knD R ks)) ∧ KnOk R ks ∧ RowsOk R.rows ∧ mode ∈ modesU R ∧ side ∈ sidesL ∧
  ∀ ks', KnOk R ks' → Φ (.lst ((vrM R.rows mode side).map vrD)) (mup μ kk (.dct (knD R ks')))
section
variable {P : Program} {w : World} {K : PySem.W.Frag} {mg : Str → Option Value} {base : Heap}
theorem sc_Beside___init__ : FnScope ["self", "rule", "askers", "asker"] ["self", "rule", "askers", "asker"] (defScope (inClass (top 42) 0)) := ⟨rfl, rfl, rfl, by decide +kernel, rfl, by decide +kernel, by decide +kernel⟩
theorem B_Beside___init__ (T : TF w K mg)  : ∀ {f : Addr} {cdv : Value} {A : Around} {outer : List Env} {s : Shared} {H : Hp} {E : XK}, Room 0 (A.deeper (envOfC "Beside.__init__" (defScope (inClass (top 42) 0)) s.heap.objs.size f cdv)) → ∃ ds, QSs (cxOf CX0 P w K mg base ["self", "rule", "askers", "asker"] "Beside.__init__" (defScope (inClass (top 42) 0)) f cdv A outer s H E).nox (defBody (inClass (top 42) 0)) ds ∧ ∀ args μ Φ, ((S_Beside K) : DSp) args μ Φ → ds (endD μ Φ) (startD (["self", "rule", "askers", "asker"] : List Str).length args) μ := by
  intro f cdv A outer s H E hr
  have nd := sc_Beside___init__.nd
  refine ⟨_, (ss_cons (s_fldNew (He.ga K "Beside") [] T.beside.cl (T.beside.na _ (by simp)) (by decide) (by decide) (q_var 1) (q_var 0))
      (ss_cons (s_fldNew (He.ga K "Beside") ["rule"] T.beside.cl (T.beside.na _ (by simp)) (by decide) (by decide) (q_var 2) (q_var 0))
      (ss_cons (s_fldNew (He.ga K "Beside") ["rule", "askers"] T.beside.cl (T.beside.na _ (by simp)) (by decide) (by decide) (q_var 3) (q_var 0))
      (ss_one (s_fldNew (He.ga K "Beside") ["rule", "askers", "asker"] T.beside.cl (T.beside.na _ (by simp)) (by decide) (by decide) q_dctM (q_var 0)))))), ?_⟩
  rintro _ μ Φ ⟨p, d1, d2, d3, rfl, hp, h⟩
  (conv => whnf)
  refine ⟨[], hp, ?_⟩
  (conv => whnf)
  refine ⟨_, mup_same, ?_⟩
  (conv => whnf)
  refine ⟨_, mup_same, ?_⟩
  (conv => whnf)
  intro kk hkk
  have nk : kk ≠ p := fun z => by rw [z, mup_same] at hkk; cases hkk
  (conv => whnf)
  refine ⟨_, (mup_ne nk.symm).trans mup_same, ?_⟩
  (conv => whnf)
  refine ⟨_, fun _ _ e => e, ?_⟩
  rw [mup_ne nk, mup_ne nk, mup_ne nk] at hkk
  refine h _ kk hkk nk (fun a h1 h2 => ?_) mup_same ?_
  · rw [mup_ne h1, mup_ne h2, mup_ne h1, mup_ne h1, mup_ne h1]
  · rw [mup_ne nk, mup_same]
theorem sc_Beside_rounds_told : FnScope ["self", "mode", "side"] ["self", "mode", "side"] (defScope (inClass (top 42) 1)) := ⟨rfl, rfl, rfl, by decide +kernel, rfl, by decide +kernel, by decide +kernel⟩
theorem G_Beside_rounds_told (T : TF w K mg) (F : FnP K "Beside.rounds_told" "rounds_told" (inClass (top 42) 1) (He.ma K (He.ga K "Beside") "rounds_told")) (M : Meth K (He.ga K "Beside") "rounds_told" (He.ma K (He.ga K "Beside") "rounds_told")) (G_vain_rounds : FnG P w K mg base "vain_rounds" ["rule", "mode", "side"] 4 ((S_vain_rounds K))) : MethG P w K mg base (He.ga K "Beside") "rounds_told" ["self", "mode", "side"] 5 ((S_rounds_told K)) := by
  refine methG_of F M sc_Beside_rounds_told (fun _ _ _ _ _ _ us hl => match us, hl with | [_, _, _], _ => rfl) ?_ ?_
  · (intro ds μ Φ h; first | (obtain ⟨_, rfl, _⟩ := h; rfl) | (obtain ⟨_, _, rfl, _⟩ := h; rfl) | (obtain ⟨_, _, _, rfl, _⟩ := h; rfl) | (obtain ⟨_, _, _, _, rfl, _⟩ := h; rfl) | (obtain ⟨_, _, _, _, _, rfl, _⟩ := h; rfl) | (obtain ⟨_, _, _, _, _, _, rfl, _⟩ := h; rfl) | (obtain ⟨_, _, _, _, _, _, _, rfl, _⟩ := h; rfl) | (obtain ⟨_, _, _, _, _, _, _, _, rfl, _⟩ := h; rfl) | (obtain ⟨_, _, _, _, _, _, _, _, _, rfl, _⟩ := h; rfl) | (obtain ⟨_, _, _, _, _, _, _, _, _, _, rfl, _⟩ := h; rfl) | (obtain ⟨_, _, _, _, _, _, _, _, _, _, _, rfl, _⟩ := h; rfl) | (obtain ⟨_, _, _, _, _, _, _, _, _, _, _, _, rfl, _⟩ := h; rfl))
  intro f cdv A outer s H E hr
  have nd := sc_Beside_rounds_told.nd
  refine ⟨_, (ss_cons (s_if (t_cmp (op_dNotIn (hu_of hr)) sim_dIn (q_tup (a_cons (q_var 1) (a_cons (q_var 2) a_nil))) (q_fld (He.ga K "Beside") ["rule", "askers", "asker", "known"] 3 T.beside.cl (T.beside.na _ (by simp)) (q_var 0)) (by rfl)) (ss_one (s_asg (q_call G_vain_rounds (hr.mono (by decide)) rfl (a_cons (q_fld (He.ga K "Beside") ["rule", "askers", "asker", "known"] 0 T.beside.cl (T.beside.na _ (by simp)) (q_var 0)) (a_cons (q_var 1) (a_cons (q_var 2) a_nil)))) (g_dct (hu_of hr) (q_fld (He.ga K "Beside") ["rule", "askers", "asker", "known"] 3 T.beside.cl (T.beside.na _ (by simp)) (q_var 0)) (q_tup (a_cons (q_var 1) (a_cons (q_var 2) a_nil)))))) ss_nil)
      (ss_one (s_ret (q_dGet (hu_of hr) (q_fld (He.ga K "Beside") ["rule", "askers", "asker", "known"] 3 T.beside.cl (T.beside.na _ (by simp)) (q_var 0)) (q_tup (a_cons (q_var 1) (a_cons (q_var 2) a_nil))))))), ?_⟩
  clear hr nd F M
  rintro _ μ Φ ⟨R, md, n, a, kk, mode, side, ks, rfl, hkk, hks, hok, hmode, hside, h⟩
  have hl := hks.len
  have hr := hok.1
  have hlk := look_kn (R := R) (q := (mode, side)) (ks := ks)
  (conv => whnf)
  refine ⟨rfl, rfl, ?_⟩
  (conv => whnf)
  refine ⟨knK (mode, side), rfl, _, hkk, ?_⟩
  refine ⟨fun hc => ?_, fun hc => ?_⟩
  · have hc : (!(lookD (knD R ks) (knK (mode, side))).isSome) = true := hc
    rw [hlk] at hc
    have hnew : (mode, side) ∉ ks := fun z => by rw [if_pos z] at hc; simp at hc
    (conv => whnf)
    refine ⟨rfl, rfl, ?_⟩
    (conv => whnf)
    refine ⟨R, md, mode, side, rfl, hok, hside, ?_⟩
    (conv => whnf)
    refine ⟨rfl, rfl, ?_⟩
    (conv => whnf)
    refine ⟨knK (mode, side), _, rfl, hkk, lenOk.mk (by simp [knD]; omega) ?_⟩
    (conv => whnf)
    refine ⟨rfl, rfl, ?_⟩
    (conv => whnf)
    refine ⟨knK (mode, side), rfl, _, mup_same, ?_⟩
    have e : putD (knD R ks) (knK (mode, side)) (.lst ((vrM R.rows mode side).map vrD)) = knD R (ks ++ [(mode, side)]) := by
      unfold putD
      rw [hlk, if_neg hnew]
      simp [knD]
    have e2 : lookD (putD (knD R ks) (knK (mode, side)) (.lst ((vrM R.rows mode side).map vrD))) (knK (mode, side)) = some (.lst ((vrM R.rows mode side).map vrD)) := by
      rw [e, look_kn, if_pos (by simp)]
    (conv => whnf)
    (split; rotate_left; (rename_i e_; exact nomatch ((e2).symm.trans e_)); rename_i ts_ e_; cases ((e2).symm.trans e_))
    (conv => whnf)
    refine ⟨_, fun _ _ e => e, ?_⟩
    rw [e]
    refine h _ ⟨?_, fun q hq => ?_⟩
    · rw [List.nodup_append]
      exact ⟨hks.nd, by simp, fun x hx y hy z => hnew (by have : y = (mode, side) := by simpa using hy
                                                          rw [← this, ← z]; exact hx)⟩
    · rcases List.mem_append.mp hq with z | z
      · exact hks.un q z
      · have : q = (mode, side) := by simpa using z
        subst this; exact ⟨hmode, hside⟩
  · have hc : (!(lookD (knD R ks) (knK (mode, side))).isSome) = false := hc
    rw [hlk] at hc
    have hold : (mode, side) ∈ ks := by
      by_cases z : (mode, side) ∈ ks
      · exact z
      · rw [if_neg z] at hc; simp at hc
    rw [if_pos hold] at hlk
    (conv => whnf)
    refine ⟨rfl, rfl, ?_⟩
    (conv => whnf)
    refine ⟨knK (mode, side), rfl, _, hkk, ?_⟩
    (conv => whnf)
    (split; rotate_left; (rename_i e_; exact nomatch ((hlk).symm.trans e_)); rename_i ts_ e_; cases ((hlk).symm.trans e_))
    (conv => whnf)
    refine ⟨_, fun _ _ e => e, ?_⟩
    have := h ks hks
    rw [mup_id hkk] at this
    exact this
end
end K3
set_option Elab.async false
set_option linter.all false
set_option maxRecDepth 100000
set_option maxHeartbeats 800000
set_option pp.maxSteps 600
/-! KG12: choices. -/
namespace K3
open PySem PySem.Spec PyProof.Rows L2
structure Ch where
  asking : List Str
  part : Option Str
  spot : Option Nat
def chD (c : Ch) : D := .tup [tupS c.asking, oS c.part, pD c.spot]
def ValidV (a n : Nat) (s : StM) (v : VR) : Prop := ∀ q ∈ v.asking, ∀ e, ivM a n s.2 q = some e → e.1 < e.2
def EntryOf (a n : Nat) (s : StM) (v : VR) (t : StM) (c : Ch) : Prop := match v.part with
  | none => t = (v.later, s.2) ∧ c = ⟨v.asking, none, none⟩
  | some q => ∃ e, ivM a n s.2 q = some e ∧ (if v.step = "still" ∨ v.there = "home" then t = (v.later, if v.there = "home" then none else s.2) ∧ c = ⟨v.asking, some q, some e.1⟩
    else ∃ spot, e.1 ≤ spot ∧ spot < e.2 ∧ t = (v.later, some spot) ∧ c = ⟨v.asking, some q, some spot⟩)
structure ChRaw (R : RuleM) (n a : Nat) (s : StM) (vs : List VR) (found : List (StM × Ch)) : Prop where
  nd : (keysS found).Nodup
  ok : ∀ x ∈ found, ∃ v ∈ vrM R.rows s.1 (sideM a s.2), ValidV a n s v ∧ EntryOf a n s v x.1 x.2
  all : ∀ v ∈ vs, ValidV a n s v → ∀ t c, EntryOf a n s v t c → t ∈ keysS found
structure AddM (found : List (StM × Ch)) (t : StM) (c : Ch) (found' : List (StM × Ch)) : Prop where
  at_ : t ∈ keysS found'
  old : ∀ x ∈ found, x ∈ found'
  new : ∀ x ∈ found', x ∈ found ∨ x = (t, c)
  nd : (keysS found).Nodup → (keysS found').Nodup
  len : found'.length ≤ found.length + 1
theorem AddM.keys {found found' : List (StM × Ch)} {t : StM} {c : Ch} (h : AddM found t c found') {s : StM} (hs : s ∈ keysS found) : s ∈ keysS found' := by
  obtain ⟨x, h1, rfl⟩ := List.mem_map.mp hs
  exact keyS_of_mem (h.old x h1)
theorem setd_ok {μ2 : Mu} {f : Addr} {found : List (StM × Ch)} {t : StM} {c : Ch} {Φ : DK} (h : μ2 f = some (.dct (dctS chD found))) (hl : found.length ≤ 90000)
    (k : ∀ d μ3 found', AddM found t c found' → (∀ b, b ≠ f → μ3 b = μ2 b) → μ3 f = some (.dct (dctS chD found')) → Φ d μ3) :
    lenOk (dctS chD found).length (match lookD (dctS chD found) (stK t) with | some d => Φ d μ2 | none => Φ (chD c) (mup μ2 f (.dct (dctS chD found ++ [(stK t, chD c)])))) := by
  refine lenOk.mk (by simp [dctS]; omega) ?_
  by_cases hk : t ∈ keysS found
  · obtain ⟨b, hb⟩ := lookS_some hk
    rw [lookD_S, hb]
    exact k _ μ2 found ⟨hk, fun x hx => hx, fun x hx => .inl hx, fun z => z, by omega⟩ (fun b _ => rfl) h
  · rw [lookD_S, lookS_none.mpr hk]
    refine k _ _ (found ++ [(t, c)]) ⟨by rw [keys_app]; simp, fun x hx => List.mem_append_left _ hx, fun x hx => ?_, fun z => ?_, by simp⟩ (fun b hb => mup_ne hb) ?_
    · rcases List.mem_append.mp hx with z | z
      · exact .inl z
      · exact .inr (by simpa using z)
    · rw [keys_app, List.nodup_append]
      exact ⟨z, by simp, fun x hx y hy e => hk (by have : y = t := by simpa using hy
                                                   rw [← this, ← e]; exact hx)⟩
    · rw [mup_same]; unfold dctS; rw [List.map_append] <;> rfl
theorem fp_sub {pick side : Str} {Q : List Str} {q : Str} (h : fpM pick side Q = some q) : q ∈ Q := by
  have := List.find?_some h
  exact of_decide_eq_true this
theorem pgF_sub {mode side : Str} {Q : List Str} : ∀ (rows : List RowM) (i : Nat) (c : PAcc), (∀ q ∈ c.found, q ∈ Q) → ∀ q ∈ (pgF mode side Q rows i c).found, q ∈ Q
  | [], _, _, h => h
  | r :: rows, i, c, h => by
    refine pgF_sub rows (i + 1) _ ?_
    unfold paccM
    split
    · exact h
    · split
      · exact h
      · rename_i q e
        intro x hx
        have hx : x ∈ (if q ∈ c.found then c.found else c.found ++ [q]) := hx
        split at hx
        · exact h x hx
        · rcases List.mem_append.mp hx with z | z
          · exact h x z
          · have : x = q := by simpa using z
            subst this; exact fp_sub e
theorem vr_mem {rows : List RowM} {mode side : Str} {v : VR} (h : v ∈ vrM rows mode side) : v.asking ∈ lotsM side ∧ ∀ q, v.part = some q → q ∈ v.asking := by
  obtain ⟨Q, hQ, e⟩ := List.mem_filterMap.mp h
  unfold vr1 at e
  split at e
  · cases e
  · rename_i hw
    split at e
    · cases e; exact ⟨hQ, fun q z => nomatch z⟩
    · split at e
      · rename_i r q h1 h2
        cases e
        refine ⟨hQ, fun q' z => ?_⟩
        cases z
        have h3 : q ∈ (pgM rows mode side (Q ++ [("w" : Str)])).found := List.mem_of_getElem? h2
        have h4 := pgF_sub (mode := mode) (side := side) (Q := Q ++ [("w" : Str)]) rows 0 ⟨none, []⟩ (fun q hq => nomatch hq) q h3
        rcases List.mem_append.mp h4 with z | z
        · exact z
        · have : q = "w" := by simpa using z
          subst this; exact absurd h3 hw
      · cases e
theorem lots_line {side : Str} (h : side ∈ sidesL) : ∀ Q ∈ lotsM side, ∀ q ∈ Q, q ∈ lineOf side ∧ q ≠ "w" := by
  rcases side_cases h with rfl | rfl | rfl | rfl <;> decide
theorem sideM_mem (a : Nat) (p : Option Nat) : sideM a p ∈ sidesL := by
  unfold sideM
  split
  · decide
  · split
    · decide
    · split <;> decide
theorem line_home : lineOf "home" = (["under", "w", "past"] : List Str) := rfl
theorem line_here : lineOf "here" = (["under", "w", "past"] : List Str) := rfl
theorem line_low : lineOf "low" = (["under", "point", "between", "w", "past"] : List Str) := rfl
theorem line_high : lineOf "high" = (["under", "w", "between", "point", "past"] : List Str) := rfl
theorem iv_some (a n : Nat) (p : Option Nat) {q : Str} (h : q ∈ lineOf (sideM a p)) (hw : q ≠ "w") : ∃ e, ivM a n p q = some e := by
  unfold ivM plL
  unfold sideM at h
  cases p with
  | none =>
    have h : q = "under" ∨ q = "w" ∨ q = "past" := by simpa [line_home, line_here, line_low, line_high] using h
    rcases h with rfl | rfl | rfl
    · exact ⟨_, rfl⟩
    · exact absurd rfl hw
    · exact ⟨_, rfl⟩
  | some i =>
    simp only at h ⊢
    by_cases h1 : i = a
    · simp only [h1, if_true] at h ⊢
      have h : q = "under" ∨ q = "w" ∨ q = "past" := by simpa [line_home, line_here, line_low, line_high] using h
      rcases h with rfl | rfl | rfl
      · exact ⟨_, rfl⟩
      · exact absurd rfl hw
      · exact ⟨_, rfl⟩
    · by_cases h2 : i < a
      · simp only [h1, h2, if_true, if_false] at h ⊢
        have h : q = "under" ∨ q = "point" ∨ q = "between" ∨ q = "w" ∨ q = "past" := by simpa [line_home, line_here, line_low, line_high] using h
        rcases h with rfl | rfl | rfl | rfl | rfl
        · exact ⟨_, rfl⟩
        · exact ⟨_, rfl⟩
        · exact ⟨_, rfl⟩
        · exact absurd rfl hw
        · exact ⟨_, rfl⟩
      · simp only [h1, h2, if_false] at h ⊢
        have h : q = "under" ∨ q = "w" ∨ q = "between" ∨ q = "point" ∨ q = "past" := by simpa [line_home, line_here, line_low, line_high] using h
        rcases h with rfl | rfl | rfl | rfl | rfl
        · exact ⟨_, rfl⟩
        · exact absurd rfl hw
        · exact ⟨_, rfl⟩
        · exact ⟨_, rfl⟩
        · exact ⟨_, rfl⟩
theorem iv_le {a n : Nat} {p : Option Nat} {q : Str} {e : Nat × Nat} (ha : a < n) (hp : ∀ i, p = some i → i < n) (h : ivM a n p q = some e) : e.2 ≤ n := by
  unfold ivM at h
  obtain ⟨x, hx, rfl⟩ := Option.map_eq_some_iff.mp h
  have hm := List.mem_of_find?_eq_some hx
  unfold plL at hm
  cases p with
  | none =>
    have hm : x = (("under" : Str), 0, a) ∨ x = (("past" : Str), a + 1, n) := by simpa using hm
    rcases hm with rfl | rfl
    · show a ≤ n; omega
    · exact Nat.le_refl _
  | some i =>
    have hi := hp i rfl
    simp only at hm
    split at hm
    · have hm : x = (("under" : Str), 0, a) ∨ x = (("past" : Str), a + 1, n) := by simpa using hm
      rcases hm with rfl | rfl
      · show a ≤ n; omega
      · exact Nat.le_refl _
    · split at hm
      · have hm : x = (("under" : Str), 0, i) ∨ x = (("past" : Str), a + 1, n) ∨ x = (("point" : Str), i, i + 1) ∨ x = (("between" : Str), i + 1, a) := by simpa using hm
        rcases hm with rfl | rfl | rfl | rfl
        · show i ≤ n; omega
        · exact Nat.le_refl _
        · show i + 1 ≤ n; omega
        · show a ≤ n; omega
      · have hm : x = (("under" : Str), 0, a) ∨ x = (("past" : Str), i + 1, n) ∨ x = (("between" : Str), a + 1, i) ∨ x = (("point" : Str), i, i + 1) := by simpa using hm
        rcases hm with rfl | rfl | rfl | rfl
        · show a ≤ n; omega
        · exact Nat.le_refl _
        · show i ≤ n; omega
        · show i + 1 ≤ n; omega
def S_choices (K : PySem.W.Frag) : DSp := fun xs μ Φ => ∃ (R : RuleM) (md : D) (n a : Nat) (kk : Addr) (s : StM) (ks : List (Str × Str)), xs = [besD K R md n a kk, stD s] ∧ μ kk = some (.dct (knD R ks)) ∧ KnOk R ks ∧ RowsOk R.rows ∧ a < n ∧ n < 60 ∧ s ∈ univM R n ∧
  ∀ ks' found, KnOk R ks' → ChRaw R n a s (vrM R.rows s.1 (sideM a s.2)) found → found.length ≤ 2000 → Φ (.dct (dctS chD found)) (mup μ kk (.dct (knD R ks')))
end K3
set_option Elab.async false
set_option linter.all false
set_option maxRecDepth 100000
set_option maxHeartbeats 800000
set_option pp.maxSteps 600
/-! KG12: choices. -/
namespace K3
open PySem PySem.Spec PyProof.Rows L2
def emptyB (a n : Nat) (p : Option Nat) (q : Str) : Bool := match ivM a n p q with | some e => decide ((e.2 : Int) ≤ (e.1 : Int)) | none => false
theorem any_empty {a n : Nat} {s : StM} {v : VR} (hq : ∀ q ∈ v.asking, ∃ e, ivM a n s.2 q = some e) : ((v.asking.map (emptyB a n s.2)).any id = false) ↔ ValidV a n s v := by
  rw [List.any_map, List.any_eq_false]
  constructor
  · intro h q hqm e he
    have := h q hqm
    simp only [Function.comp, id, emptyB, he, decide_eq_true_eq] at this
    omega
  · intro h q hqm
    obtain ⟨e, he⟩ := hq q hqm
    have := h q hqm e he
    simp only [Function.comp, id, emptyB, he, decide_eq_true_eq]
    omega
theorem rng2_get {lo hi j : Nat} {x : D} (h : (rngD (lo : Int) ((hi : Int) - (lo : Int)).toNat)[j]? = some x) : lo + j < hi ∧ x = dI ((lo + j : Nat) : Int) := by
  have hl : j < ((hi : Int) - (lo : Int)).toNat := by
    have := (List.getElem?_eq_some_iff.mp h).1
    rwa [rngD_len] at this
  rw [rngD_get hl] at h
  cases h
  exact ⟨by omega, by rw [Int.natCast_add]⟩
theorem raw_add {R : RuleM} {n a : Nat} {s : StM} {vs : List VR} {v : VR} {i : Nat} {found found' : List (StM × Ch)} {t : StM} {c : Ch} (h : ChRaw R n a s (vs.take i) found) (hv : vs[i]? = some v) (hm : v ∈ vrM R.rows s.1 (sideM a s.2)) (hval : ValidV a n s v) (hE : EntryOf a n s v t c)
    (ad : AddM found t c found') (one : ∀ t' c', EntryOf a n s v t' c' → t' = t) : ChRaw R n a s (vs.take (i + 1)) found' where
  nd := ad.nd h.nd
  ok := fun x hx => by
    rcases ad.new x hx with z | rfl
    · exact h.ok x z
    · exact ⟨v, hm, hval, hE⟩
  all := fun u hu hvu t' c' hE' => by
    rw [take_get hv] at hu
    rcases List.mem_append.mp hu with z | z
    · exact ad.keys (h.all u z hvu t' c' hE')
    · have : u = v := by simpa using z
      subst this
      rw [one t' c' hE']; exact ad.at_
section
variable {P : Program} {w : World} {K : PySem.W.Frag} {mg : Str → Option Value} {base : Heap}
theorem sc_Beside_choices : FnScope ["self", "state", "mode", "pointer", "spots", "found", "asking", "part", "step", "later", "there", "spot", "one"] ["self", "state"] (defScope (inClass (top 42) 2)) := ⟨rfl, rfl, rfl, by decide +kernel, rfl, by decide +kernel, by decide +kernel⟩
theorem G_Beside_choices (T : TF w K mg) (F : FnP K "Beside.choices" "choices" (inClass (top 42) 2) (He.ma K (He.ga K "Beside") "choices")) (M : Meth K (He.ga K "Beside") "choices" (He.ma K (He.ga K "Beside") "choices")) (G_Beside_rounds_told : MethG P w K mg base (He.ga K "Beside") "rounds_told" ["self", "mode", "side"] 5 ((S_rounds_told K))) (G_places : FnG P w K mg base "places" ["asker", "askers", "pointer"] 2 (S_places)) (G_side_of : FnG P w K mg base "side_of" ["asker", "pointer"] 1 (S_side_of)) : MethG P w K mg base (He.ga K "Beside") "choices" ["self", "state"] 6 ((S_choices K)) := by
  refine methG_of F M sc_Beside_choices (fun _ _ _ _ _ _ us hl => match us, hl with | [_, _], _ => rfl) ?_ ?_
  · (intro ds μ Φ h; first | (obtain ⟨_, rfl, _⟩ := h; rfl) | (obtain ⟨_, _, rfl, _⟩ := h; rfl) | (obtain ⟨_, _, _, rfl, _⟩ := h; rfl) | (obtain ⟨_, _, _, _, rfl, _⟩ := h; rfl) | (obtain ⟨_, _, _, _, _, rfl, _⟩ := h; rfl) | (obtain ⟨_, _, _, _, _, _, rfl, _⟩ := h; rfl) | (obtain ⟨_, _, _, _, _, _, _, rfl, _⟩ := h; rfl) | (obtain ⟨_, _, _, _, _, _, _, _, rfl, _⟩ := h; rfl) | (obtain ⟨_, _, _, _, _, _, _, _, _, rfl, _⟩ := h; rfl) | (obtain ⟨_, _, _, _, _, _, _, _, _, _, rfl, _⟩ := h; rfl) | (obtain ⟨_, _, _, _, _, _, _, _, _, _, _, rfl, _⟩ := h; rfl) | (obtain ⟨_, _, _, _, _, _, _, _, _, _, _, _, rfl, _⟩ := h; rfl))
  intro f cdv A outer s H E hr
  have nd := sc_Beside_choices.nd
  refine ⟨_, (ss_cons (s_asg (q_var 1) (g_tup rfl (gs_cons (g_name (i := 2) nd rfl (.inl rfl)) (gs_cons (g_name (i := 3) nd rfl (.inl rfl)) gs_nil))))
      (ss_cons (s_set 4 nd (q_call G_places (hr.mono (by decide)) rfl (a_cons (q_fld (He.ga K "Beside") ["rule", "askers", "asker", "known"] 2 T.beside.cl (T.beside.na _ (by simp)) (q_var 0)) (a_cons (q_fld (He.ga K "Beside") ["rule", "askers", "asker", "known"] 1 T.beside.cl (T.beside.na _ (by simp)) (q_var 0)) (a_cons (q_var 3) a_nil)))))
      (ss_cons (s_set 5 nd q_dctM)
      (ss_cons (s_for PassesOwn.never rfl (i_list (q_meth (He.ga K "Beside") ["rule", "askers", "asker", "known"] (q_var 0) T.beside.cl G_Beside_rounds_told (hr.mono (by decide)) (by decide) (a_cons (q_var 2) (a_cons (q_call G_side_of (hr.mono (by decide)) rfl (a_cons (q_fld (He.ga K "Beside") ["rule", "askers", "asker", "known"] 2 T.beside.cl (T.beside.na _ (by simp)) (q_var 0)) (a_cons (q_var 3) a_nil))) a_nil)))) (g_tup rfl (gs_cons (g_name (i := 6) nd rfl (.inl rfl)) (gs_cons (g_name (i := 7) nd rfl (.inl rfl)) (gs_cons (g_name (i := 8) nd rfl (.inl rfl)) (gs_cons (g_name (i := 9) nd rfl (.inl rfl)) (gs_cons (g_name (i := 10) nd rfl (.inl rfl)) gs_nil)))))) (ss_cons (s_if (t_val (q_cb (cr_any rfl) sim_any rfl (T.free "any" (by simp)) (by decide +kernel) (a_cons (q_lc (own := [("one", 12)]) (blk1 12) rfl nd (blkOk_by (own := [("one", 12)]) (by kernel_rfl)) (i_tup (q_var 6)) (fun _ _ _ _ _ => (pg_name (i := 12) nd rfl (.inl rfl))) (fun _ _ _ _ _ => ts_nil) (fun _ _ _ _ _ => (q_ge (q_ix (q_nGet (hu_of hr) (q_var 4) (q_var 12)) q_int) (q_ix (q_nGet (hu_of hr) (q_var 4) (q_var 12)) q_int)))) a_nil))) (ss_one s_cont) ss_nil)
      (ss_one (s_if (t_isN (q_var 7)) (ss_one (s_expr (q_setd (hu_of hr) (q_var 5) (a_cons (q_tup (a_cons (q_var 9) (a_cons (q_var 3) a_nil))) (a_cons (q_tup (a_cons (q_var 6) (a_cons q_non (a_cons q_non a_nil)))) a_nil))))) (ss_one (s_if (t_w (w_or (t_eq (q_var 8) q_str) (w_or1 (t_eq (q_var 10) q_str)))) (ss_one (s_expr (q_setd (hu_of hr) (q_var 5) (a_cons (q_tup (a_cons (q_var 9) (a_cons (q_if (t_eq (q_var 10) q_str) q_non (q_var 3)) a_nil))) (a_cons (q_tup (a_cons (q_var 6) (a_cons (q_var 7) (a_cons (q_ix (q_nGet (hu_of hr) (q_var 4) (q_var 7)) q_int) a_nil)))) a_nil))))) (ss_one (s_for PassesOwn.never rfl (i_range2 rfl (T.free "range" (by simp)) (a_cons (q_ix (q_nGet (hu_of hr) (q_var 4) (q_var 7)) q_int) (a_cons (q_ix (q_nGet (hu_of hr) (q_var 4) (q_var 7)) q_int) a_nil))) (g_name (i := 11) nd rfl (.inl rfl)) (ss_one (s_expr (q_setd (hu_of hr) (q_var 5) (a_cons (q_tup (a_cons (q_var 9) (a_cons (q_var 11) a_nil))) (a_cons (q_tup (a_cons (q_var 6) (a_cons (q_var 7) (a_cons (q_var 11) a_nil)))) a_nil)))))))))))))
      (ss_one (s_retF (q_var 5))))))), ?_⟩
  clear hr nd F M
  rintro _ μ Φ ⟨R, md, n, a, kk, s0, ks, rfl, hkk, hks, hok, han, hn60, hsu, h⟩
  have hside := sideM_mem a s0.2
  have hsu2 := mem_univ.mp hsu
  have hmode : s0.1 ∈ modesU R := by
    rcases hsu2.1 with z | ⟨r, h1, h2⟩
    · exact List.mem_cons.mpr (.inl z)
    · exact List.mem_cons.mpr (.inr (List.mem_map.mpr ⟨r, h1, h2⟩))
  have hv16 : (vrM R.rows s0.1 (sideM a s0.2)).length ≤ 16 := Nat.le_trans (List.length_filterMap_le _ _) (lots_len hside).1
  (conv => whnf)
  refine ⟨rfl, rfl, ?_⟩
  (conv => whnf)
  refine ⟨rfl, rfl, ?_⟩
  (conv => whnf)
  refine ⟨a, n, s0.2, rfl, ?_⟩
  (conv => whnf)
  intro f hf
  have nkf : kk ≠ f := fun z => by rw [← z, hkk] at hf; cases hf
  (conv => whnf)
  refine ⟨rfl, rfl, ?_⟩
  (conv => whnf)
  refine ⟨rfl, rfl, ?_⟩
  (conv => whnf)
  refine ⟨a, s0.2, rfl, ?_⟩
  (conv => whnf)
  refine ⟨R, md, n, a, kk, s0.1, sideM a s0.2, ks, rfl, (mup_ne nkf).trans hkk, hks, hok, hmode, hside, fun ks' hks' => ?_⟩
  (conv => whnf)
  refine ⟨fun i ρ μ' => ∃ found, ChRaw R n a s0 ((vrM R.rows s0.1 (sideM a s0.2)).take i) found ∧ found.length ≤ 60 * i ∧ (∀ b, b ≠ f → μ' b = mup μ kk (.dct (knD R ks')) b) ∧ μ' f = some (.dct (dctS chD found)) ∧
    ∃ d6 d7 d8 d9 d10 d11 d12, ρ = [some (besD K R md n a kk), some (stD s0), some (dS s0.1), some (pD s0.2), some (.dks (plD a n s0.2)), some (dR f), d6, d7, d8, d9, d10, d11, d12], ?_, ?_, ?_⟩
  · refine ⟨[], ⟨by simp [keysS], (fun x hx => nomatch hx), (fun v hv => nomatch hv)⟩, Nat.le_refl 0, fun b hb => ?_, ?_, _, _, _, _, _, _, _, rfl⟩
    · by_cases e : b = kk
      · subst e; rw [mup_same, mup_same]
      · rw [mup_ne e, mup_ne hb, mup_ne e]
    · rw [mup_ne nkf.symm, mup_same] <;> rfl
  · rintro i x ρ μ' hx ⟨found, hraw, hfl, hoth, hff, d6, d7, d8, d9, d10, d11, d12, rfl⟩
    obtain ⟨v, hv, rfl⟩ := map_get hx
    have hvm := List.mem_of_getElem? hv
    have hi := (List.getElem?_eq_some_iff.mp hv).1
    obtain ⟨hask, hpart⟩ := vr_mem hvm
    have hlot := lots_line hside v.asking hask
    have hask4 := (lots_len hside).2 v.asking hask
    have hiv : ∀ q ∈ v.asking, ∃ e, ivM a n s0.2 q = some e := fun q hq => iv_some a n s0.2 (hlot q hq).1 (hlot q hq).2
    have hlook : ∀ q e, ivM a n s0.2 q = some e → lookN (plD a n s0.2) q = some (ivD e) := fun q e he => by rw [lookN_pl, he] <;> rfl
    -- the raw facts with one entry more
    have skipV : ¬ ValidV a n s0 v → ChRaw R n a s0 ((vrM R.rows s0.1 (sideM a s0.2)).take (i + 1)) found := fun hnv => ⟨hraw.nd, hraw.ok, fun u hu hval t c hE => by
      rw [take_get hv] at hu
      rcases List.mem_append.mp hu with z | z
      · exact hraw.all u z hval t c hE
      · have : u = v := by simpa using z
        subst this; exact absurd hval hnv⟩
    (conv => whnf)
    refine LcD.map (fun d => match d with | .v (.str q) => dB (emptyB a n s0.2 q) | _ => dB false) (by simp; omega) ?_ ?_
    · intro j y hy
      obtain ⟨q, hq, rfl⟩ := map_get hy
      obtain ⟨e, he⟩ := hiv q (List.mem_of_getElem? hq)
      have hl1 := hlook q e he
      refine ⟨_, rfl, fun Ψ hΨ => ?_⟩
      (conv => whnf)
      (split; rotate_left; (rename_i e_; exact nomatch ((hl1).symm.trans e_)); rename_i ts_ e_; cases ((hl1).symm.trans e_))
      (conv => whnf)
      (split; rotate_left; (rename_i e_; exact nomatch ((hl1).symm.trans e_)); rename_i ts_ e_; cases ((hl1).symm.trans e_))
      (conv => whnf)
      have : emptyB a n s0.2 q = decide ((e.2 : Int) ≤ (e.1 : Int)) := by unfold emptyB; rw [he]
      have hΨ : Ψ (dB (emptyB a n s0.2 q)) μ' := hΨ
      rw [this] at hΨ
      exact hΨ
    · (conv => whnf)
      refine ⟨v.asking.map (emptyB a n s0.2), by rw [List.map_map, List.map_map] <;> rfl, ?_⟩
      refine ⟨fun hc => ?_, fun hc => ?_⟩
      · have hnv : ¬ ValidV a n s0 v := fun z => by rw [(any_empty hiv).mpr z] at hc; cases hc
        (conv => whnf)
        exact ⟨found, skipV hnv, by omega, hoth, hff, _, _, _, _, _, _, _, rfl⟩
      · have hval : ValidV a n s0 v := (any_empty hiv).mp hc
        obtain ⟨vq, vp, vst, vl, vt⟩ := v
        cases vp with
        | none =>
          (conv => whnf)
          refine ⟨fun _ => ?_, fun z => (tf_ z).elim⟩
          (conv => whnf)
          refine ⟨⟨_, hff⟩, ?_⟩
          (conv => whnf)
          refine ⟨stK (vl, s0.2), _, (stK_D (vl, s0.2)).symm, hff, ?_⟩
          refine setd_ok (c := ⟨vq, none, none⟩) hff (by omega) ?_
          intro d μ3 found' ad ho hf'
          refine ⟨found', raw_add hraw hv hvm hval ⟨rfl, rfl⟩ ad (fun t' c' hE => hE.1), by have := ad.len; omega, fun b hb => (ho b hb).trans (hoth b hb), hf', _, _, _, _, _, _, _, rfl⟩
        | some q =>
          obtain ⟨e, he⟩ := hiv q (hpart q rfl)
          have hlt : e.1 < e.2 := hval q (hpart q rfl) e he
          have hen := iv_le han hsu2.2 he
          have hl1 := hlook q e he
          by_cases hh : vt = "home"
          · subst hh
            have ent : EntryOf a n s0 ⟨vq, some q, vst, vl, "home"⟩ (vl, none) ⟨vq, some q, some e.1⟩ := ⟨e, he, by rw [if_pos (.inr rfl)]; exact ⟨by rw [if_pos rfl], rfl⟩⟩
            have one : ∀ t' c', EntryOf a n s0 ⟨vq, some q, vst, vl, "home"⟩ t' c' → t' = (vl, none) := fun t' c' hE => by
              obtain ⟨e', he', z⟩ := hE
              rw [if_pos (.inr rfl)] at z
              rw [z.1, if_pos rfl]
            (conv => whnf)
            refine ⟨fun z => (ft_ z).elim, fun _ => ?_⟩
            (conv => whnf)
            refine ⟨rfl, fun _ => ⟨fun _ => ?_, fun z => (tf_ z).elim⟩, fun _ => ?_⟩
            · (conv => whnf)
              refine ⟨⟨_, hff⟩, ?_⟩
              (conv => whnf)
              refine ⟨rfl, fun _ => ?_, fun z => (tf_ z).elim⟩
              (conv => whnf)
              (split; rotate_left; (rename_i e_; exact nomatch ((hl1).symm.trans e_)); rename_i ts_ e_; cases ((hl1).symm.trans e_))
              (conv => whnf)
              refine ⟨stK (vl, none), _, (stK_D (vl, none)).symm, hff, ?_⟩
              refine setd_ok (c := ⟨vq, some q, some e.1⟩) hff (by omega) ?_
              intro d μ3 found' ad ho hf'
              refine ⟨found', raw_add hraw hv hvm hval ent ad one, by have := ad.len; omega, fun b hb => (ho b hb).trans (hoth b hb), hf', _, _, _, _, _, _, _, rfl⟩
            · (conv => whnf)
              refine ⟨rfl, fun _ => ?_, fun z => (tf_ z).elim⟩
              (conv => whnf)
              refine ⟨⟨_, hff⟩, ?_⟩
              (conv => whnf)
              refine ⟨rfl, fun _ => ?_, fun z => (tf_ z).elim⟩
              (conv => whnf)
              (split; rotate_left; (rename_i e_; exact nomatch ((hl1).symm.trans e_)); rename_i ts_ e_; cases ((hl1).symm.trans e_))
              (conv => whnf)
              refine ⟨stK (vl, none), _, (stK_D (vl, none)).symm, hff, ?_⟩
              refine setd_ok (c := ⟨vq, some q, some e.1⟩) hff (by omega) ?_
              intro d μ3 found' ad ho hf'
              refine ⟨found', raw_add hraw hv hvm hval ent ad one, by have := ad.len; omega, fun b hb => (ho b hb).trans (hoth b hb), hf', _, _, _, _, _, _, _, rfl⟩
          · have hh2 : decide (V.str vt = V.str "home") = false := decide_eq_false fun z => hh (V.str.inj z)
            by_cases hs : vst = "still"
            · subst hs
              have ent : EntryOf a n s0 ⟨vq, some q, "still", vl, vt⟩ (vl, s0.2) ⟨vq, some q, some e.1⟩ := ⟨e, he, by rw [if_pos (.inl rfl)]; exact ⟨by rw [if_neg hh], rfl⟩⟩
              have one : ∀ t' c', EntryOf a n s0 ⟨vq, some q, "still", vl, vt⟩ t' c' → t' = (vl, s0.2) := fun t' c' hE => by
                obtain ⟨e', he', z⟩ := hE
                rw [if_pos (.inl rfl)] at z
                rw [z.1, if_neg hh]
              (conv => whnf)
              refine ⟨fun z => (ft_ z).elim, fun _ => ?_⟩
              (conv => whnf)
              refine ⟨rfl, fun _ => ⟨fun _ => ?_, fun z => (tf_ z).elim⟩, fun z => (tf_ z).elim⟩
              (conv => whnf)
              refine ⟨⟨_, hff⟩, ?_⟩
              (conv => whnf)
              refine ⟨rfl, fun z => (tf_ (z.symm.trans hh2)).elim, fun _ => ?_⟩
              (conv => whnf)
              (split; rotate_left; (rename_i e_; exact nomatch ((hl1).symm.trans e_)); rename_i ts_ e_; cases ((hl1).symm.trans e_))
              (conv => whnf)
              refine ⟨stK (vl, s0.2), _, (stK_D (vl, s0.2)).symm, hff, ?_⟩
              refine setd_ok (c := ⟨vq, some q, some e.1⟩) hff (by omega) ?_
              intro d μ3 found' ad ho hf'
              refine ⟨found', raw_add hraw hv hvm hval ent ad one, by have := ad.len; omega, fun b hb => (ho b hb).trans (hoth b hb), hf', _, _, _, _, _, _, _, rfl⟩
            · have hs2 : decide (V.str vst = V.str "still") = false := decide_eq_false fun z => hs (V.str.inj z)
              have hor : ¬ (vst = "still" ∨ vt = "home") := fun z => z.elim hs hh
              (conv => whnf)
              refine ⟨fun z => (ft_ z).elim, fun _ => ?_⟩
              (conv => whnf)
              refine ⟨rfl, fun z => (tf_ (z.symm.trans hs2)).elim, fun _ => ?_⟩
              (conv => whnf)
              refine ⟨rfl, fun z => (tf_ (z.symm.trans hh2)).elim, fun _ => ?_⟩
              (conv => whnf)
              (split; rotate_left; (rename_i e_; exact nomatch ((hl1).symm.trans e_)); rename_i ts_ e_; cases ((hl1).symm.trans e_))
              (conv => whnf)
              (split; rotate_left; (rename_i e_; exact nomatch ((hl1).symm.trans e_)); rename_i ts_ e_; cases ((hl1).symm.trans e_))
              (conv => whnf)
              refine ⟨⟨by omega, by omega, by omega, by omega⟩, fun j ρ μ' => ∃ found', (keysS found').Nodup ∧ (∀ x ∈ found', ∃ v ∈ vrM R.rows s0.1 (sideM a s0.2), ValidV a n s0 v ∧ EntryOf a n s0 v x.1 x.2) ∧
                (∀ t, t ∈ keysS found → t ∈ keysS found') ∧ (∀ spot, e.1 ≤ spot → spot < e.1 + j → (vl, some spot) ∈ keysS found') ∧ found'.length ≤ 60 * i + j ∧ (∀ b, b ≠ f → μ' b = mup μ kk (.dct (knD R ks')) b) ∧ μ' f = some (.dct (dctS chD found')) ∧
                ∃ d11 d12, ρ = [some (besD K R md n a kk), some (stD s0), some (dS s0.1), some (pD s0.2), some (.dks (plD a n s0.2)), some (dR f), some (tupS vq), some (dS q), some (dS vst), some (dS vl), some (dS vt), d11, d12], ?_, ?_, ?_⟩
              · exact ⟨found, hraw.nd, hraw.ok, fun t ht => ht, fun spot h1 h2 => by omega, by omega, hoth, hff, _, _, rfl⟩
              · rintro j x ρ μ4 hx ⟨fd, fnd, fok, fold, fdone, flen, foth, fff, d11, d12, rfl⟩
                obtain ⟨hj, rfl⟩ := rng2_get hx
                (conv => whnf)
                refine ⟨⟨_, fff⟩, ?_⟩
                (conv => whnf)
                refine ⟨stK (vl, some (e.1 + j)), _, (stK_D (vl, some (e.1 + j))).symm, fff, ?_⟩
                refine setd_ok (c := ⟨vq, some q, some (e.1 + j)⟩) fff (by omega) ?_
                intro d μ3 found' ad ho hf'
                refine ⟨found', ad.nd fnd, fun x hx => ?_, fun t ht => ad.keys (fold t ht), fun spot h1 h2 => ?_, by have := ad.len; omega, fun b hb => (ho b hb).trans (foth b hb), hf', _, _, rfl⟩
                · rcases ad.new x hx with z | rfl
                  · exact fok x z
                  · exact ⟨_, hvm, hval, e, he, by rw [if_neg hor]; exact ⟨e.1 + j, by omega, hj, rfl, rfl⟩⟩
                · by_cases hsp : spot = e.1 + j
                  · subst hsp; exact ad.at_
                  · exact ad.keys (fdone spot h1 (by omega))
              · rintro ρ μ4 ⟨fd, fnd, fok, fold, fdone, flen, foth, fff, d11, d12, rfl⟩
                rw [rngD_len] at fdone flen
                have hsz : ((e.2 : Int) - (e.1 : Int)).toNat = e.2 - e.1 := by omega
                have flen : fd.length ≤ 60 * i + ((e.2 : Int) - (e.1 : Int)).toNat := flen
                refine ⟨fd, ⟨fnd, fok, fun u hu hvu t' c' hE' => ?_⟩, by omega, foth, fff, _, _, _, _, _, _, _, rfl⟩
                rw [take_get hv] at hu
                rcases List.mem_append.mp hu with z | z
                · exact fold _ (hraw.all u z hvu t' c' hE')
                · have : u = ⟨vq, some q, vst, vl, vt⟩ := by simpa using z
                  subst this
                  obtain ⟨e', he', z⟩ := hE'
                  have : e' = e := by
                    have he' : ivM a n s0.2 q = some e' := he'
                    rw [he] at he'; cases he'; rfl
                  subst this
                  rw [if_neg hor] at z
                  obtain ⟨spot, h1, h2, h3, _⟩ := z
                  rw [h3]
                  refine fdone spot h1 ?_
                  show spot < e'.1 + ((e'.2 : Int) - (e'.1 : Int)).toNat
                  omega
  · rintro ρ μ' ⟨found, hraw, hfl, hoth, hff, d6, d7, d8, d9, d10, d11, d12, rfl⟩
    rw [List.length_map, List.take_of_length_le (Nat.le_refl _)] at hraw
    rw [List.length_map] at hfl
    (conv => whnf)
    refine ⟨f, _, rfl, hff, hf, mup μ kk (.dct (knD R ks')), fun b u e => ?_, h ks' found hks' hraw (by omega)⟩
    have ne : b ≠ f := fun z => by
      rw [z, mup_ne nkf.symm, hf] at e; cases e
    rw [mdel_ne ne, hoth b ne]; exact e
end
end K3
set_option Elab.async false
set_option linter.all false
set_option maxRecDepth 100000
set_option maxHeartbeats 800000
set_option pp.maxSteps 600
/-! KG13: round_of. -/
namespace K3
open PySem PySem.Spec PyProof.Rows L2
def repM (a n : Nat) (s : StM) (c : Ch) (q : Str) : Nat := if c.part = some q then c.spot.getD 0 else ((ivM a n s.2 q).getD (0, 0)).1
def S_round_of (K : PySem.W.Frag) : DSp := fun xs μ Φ => ∃ (R : RuleM) (md : D) (n a : Nat) (kk : Addr) (s : StM) (c : Ch), xs = [besD K R md n a kk, stD s, chD c] ∧ (∀ q ∈ c.asking, ∃ e, ivM a n s.2 q = some e) ∧ (∀ q, c.part = some q → ∃ sp, c.spot = some sp) ∧ c.asking.length ≤ 4 ∧
  ∀ A : List Nat, A.Perm (c.asking.map (repM a n s c) ++ [a]) → A.Pairwise (· ≤ ·) → Φ (tupI A) μ
section
variable {P : Program} {w : World} {K : PySem.W.Frag} {mg : Str → Option Value} {base : Heap}
theorem sc_Beside_round_of : FnScope ["self", "state", "choice", "asking", "part", "spot", "spots", "chosen", "one"] ["self", "state", "choice"] (defScope (inClass (top 42) 3)) := ⟨rfl, rfl, rfl, by decide +kernel, rfl, by decide +kernel, by decide +kernel⟩
theorem G_Beside_round_of (T : TF w K mg) (F : FnP K "Beside.round_of" "round_of" (inClass (top 42) 3) (He.ma K (He.ga K "Beside") "round_of")) (M : Meth K (He.ga K "Beside") "round_of" (He.ma K (He.ga K "Beside") "round_of")) (G_places : FnG P w K mg base "places" ["asker", "askers", "pointer"] 2 (S_places)) : MethG P w K mg base (He.ga K "Beside") "round_of" ["self", "state", "choice"] 3 ((S_round_of K)) := by
  refine methG_of F M sc_Beside_round_of (fun _ _ _ _ _ _ us hl => match us, hl with | [_, _, _], _ => rfl) ?_ ?_
  · (intro ds μ Φ h; first | (obtain ⟨_, rfl, _⟩ := h; rfl) | (obtain ⟨_, _, rfl, _⟩ := h; rfl) | (obtain ⟨_, _, _, rfl, _⟩ := h; rfl) | (obtain ⟨_, _, _, _, rfl, _⟩ := h; rfl) | (obtain ⟨_, _, _, _, _, rfl, _⟩ := h; rfl) | (obtain ⟨_, _, _, _, _, _, rfl, _⟩ := h; rfl) | (obtain ⟨_, _, _, _, _, _, _, rfl, _⟩ := h; rfl) | (obtain ⟨_, _, _, _, _, _, _, _, rfl, _⟩ := h; rfl) | (obtain ⟨_, _, _, _, _, _, _, _, _, rfl, _⟩ := h; rfl) | (obtain ⟨_, _, _, _, _, _, _, _, _, _, rfl, _⟩ := h; rfl) | (obtain ⟨_, _, _, _, _, _, _, _, _, _, _, rfl, _⟩ := h; rfl) | (obtain ⟨_, _, _, _, _, _, _, _, _, _, _, _, rfl, _⟩ := h; rfl))
  intro f cdv A outer s H E hr
  have nd := sc_Beside_round_of.nd
  refine ⟨_, (ss_cons (s_asg (q_var 2) (g_tup rfl (gs_cons (g_name (i := 3) nd rfl (.inl rfl)) (gs_cons (g_name (i := 4) nd rfl (.inr rfl)) (gs_cons (g_name (i := 5) nd rfl (.inr rfl)) gs_nil)))))
      (ss_cons (s_set 6 nd (q_call G_places (hr.mono (by decide)) rfl (a_cons (q_fld (He.ga K "Beside") ["rule", "askers", "asker", "known"] 2 T.beside.cl (T.beside.na _ (by simp)) (q_var 0)) (a_cons (q_fld (He.ga K "Beside") ["rule", "askers", "asker", "known"] 1 T.beside.cl (T.beside.na _ (by simp)) (q_var 0)) (a_cons (q_ix (q_var 1) q_int) a_nil)))))
      (ss_cons (s_setLc 7 (own := [("one", 8)]) (blk1 8) rfl nd (blkOk_by (own := [("one", 8)]) (by kernel_rfl)) rfl (sw_true rfl rfl rfl (by decide +kernel)) (i_tup (q_var 3)) (fun _ _ _ _ _ => (pg_name (i := 8) nd rfl (.inl rfl))) (fun _ _ _ _ _ => ts_nil) (fun _ _ _ _ _ => (q_if (t_eq (q_var 8) (q_var 4)) (q_var 5) (q_ix (q_nGet (hu_of hr) (q_var 6) (q_var 8)) q_int))))
      (ss_one (s_ret (q_cty call_tuple_of sim_tuple rfl (T.free "tuple" (by simp)) (by decide +kernel) (a_cons (q_cb cr_sortedI sim_sort rfl (T.free "sorted" (by simp)) (by decide +kernel) (a_cons (q_lc (own := [("one", 8)]) (blk1 8) rfl nd (blkOk_by (own := [("one", 8)]) (by kernel_rfl)) (i_tup (q_tup (a_star (q_var 7) (a_cons (q_fld (He.ga K "Beside") ["rule", "askers", "asker", "known"] 2 T.beside.cl (T.beside.na _ (by simp)) (q_var 0)) a_nil)))) (fun _ _ _ _ _ => (pg_name (i := 8) nd rfl (.inl rfl))) (fun _ _ _ _ _ => ts_nil) (fun _ _ _ _ _ => (q_cty call_int1 sim_int rfl (T.free "int" (by simp)) (by decide +kernel) (a_cons (q_var 8) a_nil)))) a_nil)) a_nil))))))), ?_⟩
  clear hr nd F M
  rintro _ μ Φ ⟨R, md, n, a, kk, s0, c, rfl, hiv, hsp, hl, h⟩
  have hlook : ∀ q e, ivM a n s0.2 q = some e → lookN (plD a n s0.2) q = some (ivD e) := fun q e he => by rw [lookN_pl, he] <;> rfl
  (conv => whnf)
  refine ⟨rfl, rfl, ?_⟩
  (conv => whnf)
  refine ⟨rfl, rfl, ?_⟩
  (conv => whnf)
  refine ⟨a, n, s0.2, rfl, ?_⟩
  (conv => whnf)
  refine LcD.map (fun d => match d with | .v (.str q) => dI (repM a n s0 c q : Nat) | _ => d) (by simp; omega) ?_ ?_
  · intro i x hx
    obtain ⟨q, hq, rfl⟩ := map_get hx
    obtain ⟨e, he⟩ := hiv q (List.mem_of_getElem? hq)
    have hl1 := hlook q e he
    refine ⟨_, rfl, fun Ψ hΨ => ?_⟩
    have hΨ : Ψ (dI (repM a n s0 c q : Nat)) μ := hΨ
    obtain ⟨ca, cp, cs⟩ := c
    cases cp with
    | none =>
      have hr : repM a n s0 ⟨ca, none, cs⟩ q = e.1 := by unfold repM; rw [if_neg (fun z => nomatch z), he] <;> rfl
      rw [hr] at hΨ
      (conv => whnf)
      refine ⟨rfl, fun z => (tf_ z.symm).elim, fun _ => ?_⟩
      (conv => whnf)
      (split; rotate_left; (rename_i e_; exact nomatch ((hl1).symm.trans e_)); rename_i ts_ e_; cases ((hl1).symm.trans e_))
      (conv => whnf)
      exact hΨ
    | some q' =>
      obtain ⟨sp, hsp'⟩ := hsp q' rfl
      have hsp' : cs = some sp := hsp'
      subst hsp'
      by_cases hqq : q = q'
      · subst hqq
        have hr : repM a n s0 ⟨ca, some q, some sp⟩ q = sp := by unfold repM; rw [if_pos rfl] <;> rfl
        rw [hr] at hΨ
        have hd : decide (V.str q = V.str q) = true := decide_eq_true rfl
        (conv => whnf)
        refine ⟨rfl, fun _ => ?_, fun z => (tf_ (hd.symm.trans z)).elim⟩
        exact hΨ
      · have hr : repM a n s0 ⟨ca, some q', some sp⟩ q = e.1 := by unfold repM; rw [if_neg (fun z => hqq (Option.some.inj z).symm), he] <;> rfl
        rw [hr] at hΨ
        have hd : decide (V.str q = V.str q') = false := decide_eq_false fun z => hqq (V.str.inj z)
        (conv => whnf)
        refine ⟨rfl, fun z => (tf_ (z.symm.trans hd)).elim, fun _ => ?_⟩
        (conv => whnf)
        (split; rotate_left; (rename_i e_; exact nomatch ((hl1).symm.trans e_)); rename_i ts_ e_; cases ((hl1).symm.trans e_))
        (conv => whnf)
        exact hΨ
  · have e1 : (c.asking.map dS).map (fun d => match d with | .v (.str q) => dI (repM a n s0 c q : Nat) | _ => d) = intsD (c.asking.map (repM a n s0 c)) := by
      unfold intsD
      rw [List.map_map, List.map_map] <;> rfl
    rw [e1]
    (conv => whnf)
    refine ⟨rfl, rfl, ?_⟩
    (conv => whnf)
    refine lenOk.mk (by rw [List.length_append, intsD_len, List.length_map]; simp; omega) ?_
    have e2 : intsD (c.asking.map (repM a n s0 c)) ++ [dI (a : Int)] = intsD (c.asking.map (repM a n s0 c) ++ [a]) := by simp [intsD]
    (conv => whnf)
    refine LcD.map id (by rw [List.length_append, intsD_len, List.length_map]; simp; omega) ?_ ?_
    · intro i x hx
      have hx : (intsD (c.asking.map (repM a n s0 c)) ++ [dI (a : Int)])[i]? = some x := hx
      rw [e2] at hx
      obtain ⟨b, hb, rfl⟩ := intsD_get hx
      exact ⟨_, rfl, fun Ψ hΨ => hΨ⟩
    · (conv => whnf)
      refine ⟨(c.asking.map (repM a n s0 c) ++ [a]).map fun (b : Nat) => (b : Int), ?_, ?_⟩
      · show (intsD (c.asking.map (repM a n s0 c)) ++ [dI (a : Int)]).map id = _
        rw [e2, List.map_id, intsI]
      · intro ns p o
        obtain ⟨A', e3, e4, e5⟩ := sort_nat p o
        (conv => whnf)
        refine ⟨μ, fun _ _ e => e, ?_⟩
        rw [e3]
        exact h A' e4 e5
end
end K3
set_option Elab.async false
set_option linter.all false
set_option maxRecDepth 100000
set_option maxHeartbeats 800000
set_option pp.maxSteps 600
/-! KM3: dicts by states as functions; the order of filling. -/
namespace K3
open PySem PySem.Spec PyProof.Rows L2
def fupd {α : Type} (f : StM → α) (s : StM) (d : α) : StM → α := fun t => if t = s then d else f t
theorem fupd_same {α : Type} {f : StM → α} {s : StM} {d : α} : fupd f s d s = d := if_pos rfl
theorem fupd_ne {α : Type} {f : StM → α} {s t : StM} {d : α} (h : t ≠ s) : fupd f s d t = f t := if_neg h
def fdct (f : StM → D) (ss : List StM) : List (List Leaf × D) := ss.map fun s => (stK s, f s)
theorem fdct_len {f : StM → D} {ss : List StM} : (fdct f ss).length = ss.length := List.length_map ..
theorem fdct_congr {f g : StM → D} {ss : List StM} (h : ∀ s ∈ ss, f s = g s) : fdct f ss = fdct g ss := List.map_congr_left fun s hs => by rw [h s hs]
theorem look_f {f : StM → D} {s : StM} : ∀ {ss : List StM}, lookD (fdct f ss) (stK s) = if s ∈ ss then some (f s) else none
  | [] => rfl
  | r :: ss => by
    unfold lookD fdct
    rw [List.map_cons, List.find?_cons]
    by_cases h : r = s
    · subst h; simp
    · have h2 : ¬ stK r = stK s := fun z => h (stK_inj z)
      have h3 : ¬ s = r := fun z => h z.symm
      simp only [h2, decide_false]
      have ih := look_f (f := f) (s := s) (ss := ss)
      unfold lookD fdct at ih
      rw [ih]
      simp [h3]
theorem look_f1 {f : StM → D} {s : StM} {ss : List StM} (h : s ∈ ss) : lookD (fdct f ss) (stK s) = some (f s) := by rw [look_f, if_pos h]
theorem put_f1 {f : StM → D} {s : StM} {d : D} {ss : List StM} (h : s ∈ ss) : putD (fdct f ss) (stK s) d = fdct (fupd f s d) ss := by
  unfold putD
  rw [look_f1 h]
  simp only [Option.isSome_some, if_true]
  unfold fdct
  rw [List.map_map]
  refine List.map_congr_left fun t _ => ?_
  by_cases e : t = s
  · subst e; simp [fupd]
  · have e2 : ¬ stK t = stK s := fun z => e (stK_inj z)
    simp [e, e2, fupd]
theorem put_f2 {f : StM → D} {s : StM} {d : D} {ss : List StM} (h : s ∉ ss) : putD (fdct f ss) (stK s) d = fdct (fupd f s d) (ss ++ [s]) := by
  unfold putD
  rw [look_f, if_neg h]
  unfold fdct
  rw [List.map_append]
  have : ss.map (fun s => (stK s, f s)) = ss.map (fun t => (stK t, fupd f s d t)) := List.map_congr_left fun t ht => by rw [fupd_ne fun z => h (by rw [← z]; exact ht)]
  rw [this]
  simp [fupd_same]
theorem set_f {f : StM → D} {s : StM} {d : D} : ∀ {ss : List StM} {j : Nat}, ss.Nodup → ss[j]? = some s → (fdct f ss).set j (stK s, d) = fdct (fupd f s d) ss
  | [], _, _, h => by simp at h
  | r :: ss, 0, nd, h => by
    simp at h; subst h
    obtain ⟨n1, _⟩ := List.nodup_cons.mp nd
    show (stK r, d) :: fdct f ss = (stK r, fupd f r d r) :: fdct (fupd f r d) ss
    rw [fupd_same, fdct_congr (f := f) (g := fupd f r d) fun t ht => (fupd_ne fun z => n1 (by rw [← z]; exact ht)).symm]
  | r :: ss, j + 1, nd, h => by
    have h : ss[j]? = some s := by simpa using h
    obtain ⟨n1, n2⟩ := List.nodup_cons.mp nd
    have ne : r ≠ s := fun z => n1 (by rw [z]; exact List.mem_of_getElem? h)
    show (stK r, f r) :: (fdct f ss).set j (stK s, d) = (stK r, fupd f s d r) :: fdct (fupd f s d) ss
    rw [set_f n2 h, fupd_ne ne]
theorem dctS_f {α : Type} {f : α → D} {g : StM → α} {ss : List StM} : dctS f (ss.map fun s => (s, g s)) = fdct (fun s => f (g s)) ss := by
  unfold dctS fdct; rw [List.map_map] <;> rfl
/-! ### the order of filling -/
def latD (ts : List StM) : D := .lst (ts.map stD)
def cntM (L : StM → List StM) (ks : List StM) (s : StM) : Nat := ((L s).filter fun t => decide (t ∉ ks)).length
def preM (ss : List StM) (L : StM → List StM) (s : StM) : List StM := ss.filter fun o => decide (s ∈ L o)
structure FillP (ss : List StM) (L : StM → List StM) (ks : List StM) (len : StM → Nat) : Prop where
  nd : ks.Nodup
  sub : ∀ s ∈ ks, s ∈ ss
  lo : ∀ s ∈ ks, ∀ t ∈ L s, t ∈ ks ∧ len t + 1 ≤ len s
  hi : ∀ s ∈ ks, len s = 0 ∨ ∃ t ∈ L s, len s = len t + 1
  bd : ∀ s ∈ ks, len s < ks.length
structure FillOk (ss : List StM) (L : StM → List StM) (ks : List StM) (len : StM → Nat) : Prop extends FillP ss L ks len where
  full : ∀ s ∈ ss, s ∉ ks → ∃ t ∈ L s, t ∉ ks
theorem cnt_zero {L : StM → List StM} {ks : List StM} {s : StM} : cntM L ks s = 0 ↔ ∀ t ∈ L s, t ∈ ks := by
  unfold cntM
  rw [List.length_eq_zero_iff, List.filter_eq_nil_iff]
  constructor
  · intro h t ht
    have := h t ht
    simpa using this
  · intro h t ht
    have := h t ht
    simpa using this
theorem cnt_add {L : StM → List StM} {ks : List StM} {s o : StM} (nd : (L o).Nodup) (hs : s ∉ ks) : cntM L (ks ++ [s]) o + (if s ∈ L o then 1 else 0) = cntM L ks o := by
  unfold cntM
  generalize L o = l at nd
  induction l with
  | nil => simp
  | cons x l ih =>
    obtain ⟨n1, n2⟩ := List.nodup_cons.mp nd
    have ih := ih n2
    by_cases hx : x = s
    · subst hx
      have hn : ¬ (if x ∈ l then 1 else 0) = 1 := by rw [if_neg n1]; decide
      rw [if_neg n1] at ih
      have h1 : decide (x ∉ ks ++ [x]) = false := by simp
      have h2 : decide (x ∉ ks) = true := by simpa using hs
      rw [List.filter_cons, List.filter_cons, h1, h2]
      simp only [if_true, List.length_cons, List.mem_cons, true_or]
      simp only [Bool.false_eq_true, if_false]
      omega
    · have hx2 : ¬ s = x := fun z => hx z.symm
      have hm : (s ∈ x :: l) ↔ s ∈ l := by simp [hx2]
      have h1 : decide (x ∉ ks ++ [s]) = decide (x ∉ ks) := by simp [hx]
      rw [List.filter_cons, List.filter_cons, h1]
      by_cases hk : x ∈ ks
      · simp only [hk, not_true, decide_false, Bool.false_eq_true, if_false, hm]; exact ih
      · simp only [hk, not_false_iff, decide_true, if_true, List.length_cons, hm]
        omega
theorem FillP.nil (ss : List StM) (L : StM → List StM) (len : StM → Nat) : FillP ss L [] len := ⟨List.nodup_nil, (fun s h => nomatch h), (fun s h => nomatch h), (fun s h => nomatch h), fun s h => nomatch h⟩
theorem FillP.add {ss : List StM} {L : StM → List StM} {ks : List StM} {len : StM → Nat} {s : StM} {k : Nat} (h : FillP ss L ks len) (hs : s ∈ ss) (hn : s ∉ ks) (hall : ∀ t ∈ L s, t ∈ ks) (hlo : ∀ t ∈ L s, len t + 1 ≤ k) (hhi : k = 0 ∨ ∃ t ∈ L s, k = len t + 1) :
    FillP ss L (ks ++ [s]) (fupd len s k) := by
  have keep : ∀ t ∈ ks, fupd len s k t = len t := fun t ht => fupd_ne fun z => hn (by rw [← z]; exact ht)
  refine ⟨?_, fun t ht => ?_, fun t ht u hu => ?_, fun t ht => ?_, fun t ht => ?_⟩
  · rw [List.nodup_append]
    exact ⟨h.nd, by simp, fun x hx y hy z => hn (by have : y = s := by simpa using hy
                                                    rw [← this, ← z]; exact hx)⟩
  · rcases List.mem_append.mp ht with z | z
    · exact h.sub t z
    · have : t = s := by simpa using z
      subst this; exact hs
  · rcases List.mem_append.mp ht with z | z
    · obtain ⟨h1, h2⟩ := h.lo t z u hu
      exact ⟨List.mem_append_left _ h1, by rw [keep t z, keep u h1]; exact h2⟩
    · have : t = s := by simpa using z
      subst this
      have h1 := hall u hu
      exact ⟨List.mem_append_left _ h1, by rw [fupd_same, keep u h1]; exact hlo u hu⟩
  · rcases List.mem_append.mp ht with z | z
    · rw [keep t z]
      rcases h.hi t z with e | ⟨u, hu, e⟩
      · exact .inl e
      · exact .inr ⟨u, hu, by rw [keep u (h.lo t z u hu).1]; exact e⟩
    · have : t = s := by simpa using z
      subst this
      rw [fupd_same]
      rcases hhi with e | ⟨u, hu, e⟩
      · exact .inl e
      · exact .inr ⟨u, hu, by rw [keep u (hall u hu)]; exact e⟩
  · rw [List.length_append]
    rcases List.mem_append.mp ht with z | z
    · rw [keep t z]
      have := h.bd t z
      omega
    · have : t = s := by simpa using z
      subst this
      rw [fupd_same]
      rcases hhi with e | ⟨u, hu, e⟩
      · simp; omega
      · have := h.bd u (hall u hu)
        simp; omega
end K3
set_option Elab.async false
set_option linter.all false
set_option maxRecDepth 100000
set_option maxHeartbeats 800000
set_option pp.maxSteps 600
/-! KG14: fill. -/
namespace K3
open PySem PySem.Spec PyProof.Rows L2
abbrev LWait : List Str := ["beside", "ways", "lengths"]
structure Mem (μ μ' : Mu) (ss : List StM) (adr : StM → Addr) (A lf la : Addr) (ks : List StM) (val : StM → D) (lv : StM → Int) (lsts : StM → List StM) (lss : List StM) : Prop where
  old : ∀ b o, b ≠ la → μ b = some o → μ' b = some o
  hA : μ' A = some (.dct (fdct val ss))
  hlf : μ' lf = some (.dct (fdct (fun s => dI (lv s)) lss))
  hl : ∀ s ∈ ss, s ∉ ks → μ' (adr s) = some (.lst ((lsts s).map stD))
  vA : ∀ s ∈ ss, s ∉ ks → val s = dR (adr s)
/-- where things stand, once for all -/
structure Apart (μ : Mu) (ss : List StM) (adr : StM → Addr) (A lf la : Addr) : Prop where
  fA : μ A = none
  ff : μ lf = none
  fa : ∀ s ∈ ss, μ (adr s) = none
  inj : ∀ s ∈ ss, ∀ t ∈ ss, adr s = adr t → s = t
  Af : A ≠ lf
  aA : ∀ s ∈ ss, adr s ≠ A
  af : ∀ s ∈ ss, adr s ≠ lf
  lA : la ≠ A
  ll : la ≠ lf
  la_ : ∀ s ∈ ss, adr s ≠ la
def S_fill (K : PySem.W.Frag) : DSp := fun xs μ Φ => ∃ (pw la : Addr) (bes : D) (ss : List StM) (L : StM → List StM), xs = [dR pw] ∧ μ pw = some (.ob (He.ga K "Wait") LWait [bes, .dct (fdct (fun s => latD (L s)) ss), dR la]) ∧ μ la = some (.dct []) ∧ ss.Nodup ∧
  (∀ s ∈ ss, (L s).Nodup ∧ (L s).length ≤ 3000 ∧ ∀ t ∈ L s, t ∈ ss) ∧ ss.length ≤ 4000 ∧
  ∀ ks len μ', FillOk ss L ks len → (∀ b o, b ≠ la → μ b = some o → μ' b = some o) → μ' la = some (.dct (fdct (fun s => dI (len s : Nat)) ks)) → Φ dN μ'
theorem cnt_nil {L : StM → List StM} {s : StM} : cntM L [] s = (L s).length := by
  unfold cntM
  rw [List.filter_eq_self.mpr fun t _ => by simp]
theorem keys_get {f : StM → D} {ss : List StM} {i : Nat} {x : D} (h : ((fdct f ss).map fun kv => keyD kv.1)[i]? = some x) : ∃ s, ss[i]? = some s ∧ x = stD s := by
  unfold fdct at h
  rw [List.map_map] at h
  obtain ⟨s, hs, rfl⟩ := map_get h
  exact ⟨s, hs, stK_D s⟩
theorem keys_len {f : StM → D} {ss : List StM} : ((fdct f ss).map fun kv => keyD kv.1).length = ss.length := by unfold fdct; rw [List.length_map, List.length_map]
theorem nodup_get {α : Type} {ss : List α} {i : Nat} {s : α} (nd : ss.Nodup) (h : ss[i]? = some s) : s ∉ ss.take i := fun z => by
  obtain ⟨j, hj⟩ := List.getElem?_of_mem z
  have hl := (List.getElem?_eq_some_iff.mp hj).1
  rw [List.length_take] at hl
  have hj2 : ss[j]? = some s := by
    rw [List.getElem?_take] at hj
    split at hj
    · exact hj
    · cases hj
  have h1 := (List.getElem?_eq_some_iff.mp h)
  have h2 := (List.getElem?_eq_some_iff.mp hj2)
  obtain ⟨l1, e1⟩ := h1
  obtain ⟨l2, e2⟩ := h2
  exact List.pairwise_iff_getElem.mp nd j i l2 l1 (by omega) (e2.trans e1.symm)
theorem mem_take_lt {α : Type} {ss : List α} {s : α} {i : Nat} (h : s ∈ ss.take i) : s ∈ ss := List.mem_of_mem_take h
section
variable {P : Program} {w : World} {K : PySem.W.Frag} {mg : Str → Option Value} {base : Heap}
theorem sc_Wait_fill : FnScope ["self", "state", "ahead", "left", "later", "waiting", "found", "other"] ["self"] (defScope (inClass (top 45) 1)) := ⟨rfl, rfl, rfl, by decide +kernel, rfl, by decide +kernel, by decide +kernel⟩
theorem G_Wait_fill (T : TF w K mg) (F : FnP K "Wait.fill" "fill" (inClass (top 45) 1) (He.ma K (He.ga K "Wait") "fill")) (M : Meth K (He.ga K "Wait") "fill" (He.ma K (He.ga K "Wait") "fill"))  : MethG P w K mg base (He.ga K "Wait") "fill" ["self"] 1 ((S_fill K)) := by
  refine methG_of F M sc_Wait_fill (fun _ _ _ _ _ _ us hl => match us, hl with | [_], _ => rfl) ?_ ?_
  · (intro ds μ Φ h; first | (obtain ⟨_, rfl, _⟩ := h; rfl) | (obtain ⟨_, _, rfl, _⟩ := h; rfl) | (obtain ⟨_, _, _, rfl, _⟩ := h; rfl) | (obtain ⟨_, _, _, _, rfl, _⟩ := h; rfl) | (obtain ⟨_, _, _, _, _, rfl, _⟩ := h; rfl) | (obtain ⟨_, _, _, _, _, _, rfl, _⟩ := h; rfl) | (obtain ⟨_, _, _, _, _, _, _, rfl, _⟩ := h; rfl) | (obtain ⟨_, _, _, _, _, _, _, _, rfl, _⟩ := h; rfl) | (obtain ⟨_, _, _, _, _, _, _, _, _, rfl, _⟩ := h; rfl) | (obtain ⟨_, _, _, _, _, _, _, _, _, _, rfl, _⟩ := h; rfl) | (obtain ⟨_, _, _, _, _, _, _, _, _, _, _, rfl, _⟩ := h; rfl) | (obtain ⟨_, _, _, _, _, _, _, _, _, _, _, _, rfl, _⟩ := h; rfl))
  intro f cdv A outer s H E hr
  have nd := sc_Wait_fill.nd
  refine ⟨_, (ss_cons (s_asg (q_tup (a_cons (q_dcM (own := [("state", 1)]) (hu_of hr) (blk1 1) rfl nd (blkOk_by (own := [("state", 1)]) (by kernel_rfl)) (i_keys (q_fld (He.ga K "Wait") ["beside", "ways", "lengths"] 1 T.wait.cl (T.wait.na _ (by simp)) (q_var 0))) (fun _ _ _ _ _ => (pg_name (i := 1) nd rfl (.inl rfl))) (fun _ _ _ _ _ => (q_var 1)) (fun _ _ _ _ _ => (q_lstM a_nil))) (a_cons q_dctM a_nil))) (g_tup rfl (gs_cons (g_name (i := 2) nd rfl (.inl rfl)) (gs_cons (g_name (i := 3) nd rfl (.inr rfl)) gs_nil))))
      (ss_cons (s_for PassesOwn.never rfl (i_keys (q_fld (He.ga K "Wait") ["beside", "ways", "lengths"] 1 T.wait.cl (T.wait.na _ (by simp)) (q_var 0))) (g_name (i := 1) nd rfl (.inl rfl)) (ss_cons (s_asg (q_cb call_len_seq sim_len rfl (T.free "len" (by simp)) (by decide +kernel) (a_cons (q_dGet (hu_of hr) (q_fld (He.ga K "Wait") ["beside", "ways", "lengths"] 1 T.wait.cl (T.wait.na _ (by simp)) (q_var 0)) (q_var 1)) a_nil)) (g_dct (hu_of hr) (q_var 3) (q_var 1)))
      (ss_one (s_for PassesOwn.never rfl (i_list (q_dGet (hu_of hr) (q_fld (He.ga K "Wait") ["beside", "ways", "lengths"] 1 T.wait.cl (T.wait.na _ (by simp)) (q_var 0)) (q_var 1))) (g_name (i := 4) nd rfl (.inl rfl)) (ss_one (s_expr (q_lm PySem.F.plainAttrs_list PySem.F.slot_list_append PySem.F.type_list_append mt_append simLm_app lmApp_mono (q_dGet (hu_of hr) (q_var 2) (q_var 4)) (a_cons (q_var 1) a_nil))))))))
      (ss_cons (s_setLcM 5 (own := [("state", 1)]) (blk1 1) rfl nd (blkOk_by (own := [("state", 1)]) (by kernel_rfl)) rfl (sw_true rfl rfl rfl (by decide +kernel)) (i_keys (q_fld (He.ga K "Wait") ["beside", "ways", "lengths"] 1 T.wait.cl (T.wait.na _ (by simp)) (q_var 0))) (fun _ _ _ _ _ => (pg_name (i := 1) nd rfl (.inl rfl))) (fun _ _ _ _ _ => (ts_one (t_eq (q_dGet (hu_of hr) (q_var 3) (q_var 1)) q_int))) (fun _ _ _ _ _ => (q_var 1)))
      (ss_one (s_while PassesOwn.never (t_gt (q_cb call_len_seq sim_len rfl (T.free "len" (by simp)) (by decide +kernel) (a_cons (q_var 5) a_nil)) q_int) (ss_cons (s_set 1 nd (q_lm0 PySem.F.plainAttrs_list PySem.F.slot_list_pop PySem.F.type_list_pop mt_pop simLm_pop lmPop_mono (q_var 5)))
      (ss_cons (s_set 6 nd q_int)
      (ss_cons (s_for PassesOwn.never rfl (i_list (q_dGet (hu_of hr) (q_fld (He.ga K "Wait") ["beside", "ways", "lengths"] 1 T.wait.cl (T.wait.na _ (by simp)) (q_var 0)) (q_var 1))) (g_name (i := 4) nd rfl (.inl rfl)) (ss_one (s_set 6 nd (q_cb (call_max2 rfl) sim_max2 rfl (T.free "max" (by simp)) (by decide +kernel) (a_cons (q_var 6) (a_cons (q_add q_int (q_dGet (hu_of hr) (q_fld (He.ga K "Wait") ["beside", "ways", "lengths"] 2 T.wait.cl (T.wait.na _ (by simp)) (q_var 0)) (q_var 4))) a_nil))))))
      (ss_cons (s_asg (q_var 6) (g_dct (hu_of hr) (q_fld (He.ga K "Wait") ["beside", "ways", "lengths"] 2 T.wait.cl (T.wait.na _ (by simp)) (q_var 0)) (q_var 1)))
      (ss_frzIn 2 (ss_one (s_for PassesOwn.never rfl (i_list (q_dGet (hu_of hr) (q_var 2) (q_var 1))) (g_name (i := 7) nd rfl (.inl rfl)) (ss_cons (s_dSub (hu_of hr) (q_var 3) (q_var 7) q_int)
      (ss_one (s_if (t_eq (q_dGet (hu_of hr) (q_var 3) (q_var 7)) q_int) (ss_one (s_expr (q_lm PySem.F.plainAttrs_list PySem.F.slot_list_append PySem.F.type_list_append mt_append simLm_app lmApp_mono (q_var 5) (a_cons (q_var 7) a_nil)))) ss_nil))))))))))))))), ?_⟩
  clear hr nd F M
  rintro _ μ Φ ⟨pw, la, bes, ss, L, rfl, hpw, hla, hnd, hL, hlen, h⟩
  have npl : pw ≠ la := fun z => by rw [z, hla] at hpw; cases hpw
  (conv => whnf)
  refine ⟨_, hpw, ?_⟩
  (conv => whnf)
  refine DcD.intro (fun i acc μ' => ∃ adr : StM → Addr, acc = fdct (fun s => dR (adr s)) (ss.take i) ∧ (∀ s ∈ ss.take i, μ (adr s) = none ∧ μ' (adr s) = some (.lst [])) ∧ (∀ s ∈ ss.take i, ∀ t ∈ ss.take i, adr s = adr t → s = t) ∧ ∀ b o, μ b = some o → μ' b = some o)
    ⟨fun _ => pw, rfl, (fun s hs => nomatch hs), (fun s hs => nomatch hs), fun b o e => e⟩ ?_ ?_
  · rintro i x acc μ' hx ⟨adr, rfl, h1, h2, h3⟩
    obtain ⟨s, hs, rfl⟩ := keys_get hx
    have hn := nodup_get hnd hs
    have hi := (List.getElem?_eq_some_iff.mp hs).1
    refine ⟨_, rfl, ?_⟩
    (conv => whnf)
    intro p hp
    refine ⟨stK s, (stK_D s).symm, lenOk.mk (by rw [fdct_len, List.length_take]; omega) ?_⟩
    have hp0 : μ p = none := by
      cases e : μ p with
      | none => rfl
      | some o => rw [h3 p o e] at hp; cases hp
    have kp : ∀ t ∈ ss.take i, fupd adr s p t = adr t := fun t ht => fupd_ne fun z => hn (by rw [← z]; exact ht)
    have np : ∀ t ∈ ss.take i, adr t ≠ p := fun t ht z => by
      have := (h1 t ht).2
      rw [z, hp] at this; cases this
    refine ⟨fupd adr s p, ?_, fun t ht => ?_, fun t ht u hu e => ?_, fun b o e => ?_⟩
    · rw [put_f2 hn, take_get hs]
      refine fdct_congr fun t ht => ?_
      by_cases e : t = s
      · subst e; rw [fupd_same, fupd_same]
      · rw [fupd_ne e, fupd_ne e]
    · rw [take_get hs] at ht
      rcases List.mem_append.mp ht with z | z
      · rw [kp t z, mup_ne (np t z)]; exact h1 t z
      · have : t = s := by simpa using z
        subst this
        rw [fupd_same, mup_same]; exact ⟨hp0, rfl⟩
    · rw [take_get hs] at ht hu
      rcases List.mem_append.mp ht with z | z <;> rcases List.mem_append.mp hu with y | y
      · rw [kp t z, kp u y] at e; exact h2 t z u y e
      · have : u = s := by simpa using y
        subst this
        rw [kp t z, fupd_same] at e
        exact absurd e (np t z)
      · have : t = s := by simpa using z
        subst this
        rw [kp u y, fupd_same] at e
        exact absurd e.symm (np u y)
      · have h1 : t = s := by simpa using z
        have h2 : u = s := by simpa using y
        rw [h1, h2]
    · have ne : b ≠ p := fun z => by rw [z, hp0] at e; cases e
      rw [mup_ne ne]; exact h3 b o e
  · rintro kvs μ0 ⟨adr, rfl, h1, h2, h3⟩
    rw [keys_len, List.take_of_length_le (Nat.le_refl _)] at h1 h2 ⊢
    intro A hA
    have fresh : ∀ p (ν : Mu), ν p = none → (∀ b o, μ b = some o → ν b = some o) → μ p = none := fun p ν hp hk => by
      cases e : μ p with
      | none => rfl
      | some o => rw [hk p o e] at hp; cases hp
    have hA0 := fresh A μ0 hA h3
    (conv => whnf)
    intro lf hlf
    have nfA : lf ≠ A := fun z => by rw [z, mup_same] at hlf; cases hlf
    rw [mup_ne nfA] at hlf
    have hf0 := fresh lf μ0 hlf h3
    have ap : Apart μ ss adr A lf la := {
      fA := hA0
      ff := hf0
      fa := fun s hs => (h1 s hs).1
      inj := h2
      Af := nfA.symm
      aA := fun s hs z => by have := (h1 s hs).2; rw [z, hA] at this; cases this
      af := fun s hs z => by have := (h1 s hs).2; rw [z, hlf] at this; cases this
      lA := fun z => by rw [← z, hla] at hA0; cases hA0
      ll := fun z => by rw [← z, hla] at hf0; cases hf0
      la_ := fun s hs z => by have := (h1 s hs).1; rw [z, hla] at this; cases this }
    have hlk : ∀ s ∈ ss, lookD (fdct (fun s => latD (L s)) ss) (stK s) = some (latD (L s)) := fun s hs => look_f1 hs
    have hlkA : ∀ s ∈ ss, lookD (fdct (fun s => dR (adr s)) ss) (stK s) = some (dR (adr s)) := fun s hs => look_f1 (f := fun s => dR (adr s)) hs
    (conv => whnf)
    have hpwA : mup (mup μ0 A (.dct (fdct (fun s => dR (adr s)) ss))) lf (.dct []) pw = some (.ob (He.ga K "Wait") LWait [bes, .dct (fdct (fun s => latD (L s)) ss), dR la]) :=
      (mup_ne (fun z => by rw [z, hf0] at hpw; cases hpw)).trans ((mup_ne (fun z => by rw [z, hA0] at hpw; cases hpw)).trans (h3 _ _ hpw))
    refine ⟨_, hpwA, ?_⟩
    (conv => whnf)
    refine ⟨fun i ρ μ' => Mem μ μ' ss adr A lf la [] (fun s => dR (adr s)) (fun s => ((L s).length : Nat)) (fun t => (ss.take i).filter fun o => decide (t ∈ L o)) (ss.take i) ∧ μ' la = some (.dct []) ∧ ∃ d1 d4 d5 d6 d7, ρ = [some (dR pw), d1, some (dR A), some (dR lf), d4, d5, d6, d7], ?_, ?_, ?_⟩
    · refine ⟨⟨fun b o nb e => ?_, ?_, ?_, fun s hs _ => ?_, fun s _ _ => rfl⟩, ?_, _, _, _, _, _, rfl⟩
      · have n1 : b ≠ A := fun z => by rw [z, hA0] at e; cases e
        have n2 : b ≠ lf := fun z => by rw [z, hf0] at e; cases e
        rw [mup_ne n2, mup_ne n1]; exact h3 b o e
      · rw [mup_ne ap.Af, mup_same]
      · rw [mup_same] <;> rfl
      · rw [mup_ne (ap.af s hs), mup_ne (ap.aA s hs)]; exact (h1 s hs).2
      · rw [mup_ne ap.ll, mup_ne ap.lA]; exact h3 _ _ hla
    · clear hpwA
      rintro i x ρ μ1 hx ⟨m, mla, d1, d4, d5, d6, d7, rfl⟩
      obtain ⟨s, hs, rfl⟩ := keys_get hx
      have hsm := List.mem_of_getElem? hs
      have hn := nodup_get hnd hs
      have hi := (List.getElem?_eq_some_iff.mp hs).1
      have hl1 := hlk s hsm
      obtain ⟨L1, L2, L3⟩ := hL s hsm
      (conv => whnf)
      refine ⟨_, m.old _ _ npl hpw, ?_⟩
      (conv => whnf)
      refine ⟨stK s, (stK_D s).symm, ?_⟩
      (conv => whnf)
      (split; rotate_left; (rename_i e_; exact nomatch ((hl1).symm.trans e_)); rename_i ts_ e_; cases ((hl1).symm.trans e_))
      (conv => whnf)
      refine ⟨stK s, _, (stK_D s).symm, m.hlf, lenOk.mk (by rw [fdct_len, List.length_take]; omega) ?_⟩
      (conv => whnf)
      have hlfn : mup μ1 lf (.dct (putD (fdct (fun s => dI ((L s).length : Nat)) (ss.take i)) (stK s) (dI (((L s).map stD).length : Nat)))) = mup μ1 lf (.dct (fdct (fun s => dI ((L s).length : Nat)) (ss.take (i + 1)))) := by
        rw [List.length_map, put_f2 hn, take_get hs]
        congr 2
        refine fdct_congr fun t _ => ?_
        by_cases e : t = s
        · subst e; rw [fupd_same]
        · rw [fupd_ne e]
      have m2 : Mem μ (mup μ1 lf (.dct (putD (fdct (fun s => dI ((L s).length : Nat)) (ss.take i)) (stK s) (dI (((L s).map stD).length : Nat))))) ss adr A lf la [] (fun s => dR (adr s)) (fun s => ((L s).length : Nat)) (fun t => (ss.take i).filter fun o => decide (t ∈ L o)) (ss.take (i + 1)) := by
        rw [hlfn]
        refine ⟨fun b o nb e => ?_, ?_, mup_same, fun u hu hk => ?_, m.vA⟩
        · have n2 : b ≠ lf := fun z => by rw [z, hf0] at e; cases e
          rw [mup_ne n2]; exact m.old b o nb e
        · rw [mup_ne ap.Af]; exact m.hA
        · rw [mup_ne (ap.af u hu)]; exact m.hl u hu hk
      have mla2 := (mup_ne (μ := μ1) (o := .dct (putD (fdct (fun s => dI ((L s).length : Nat)) (ss.take i)) (stK s) (dI (((L s).map stD).length : Nat)))) ap.ll).trans mla
      refine ⟨_, m2.old _ _ npl hpw, ?_⟩
      (conv => whnf)
      refine ⟨stK s, (stK_D s).symm, ?_⟩
      (conv => whnf)
      (split; rotate_left; (rename_i e_; exact nomatch ((hl1).symm.trans e_)); rename_i ts_ e_; cases ((hl1).symm.trans e_))
      (conv => whnf)
      refine ⟨fun j ρ μ' => Mem μ μ' ss adr A lf la [] (fun s => dR (adr s)) (fun s => ((L s).length : Nat)) (fun t => ((ss.take i).filter fun o => decide (t ∈ L o)) ++ (if t ∈ (L s).take j then [s] else [])) (ss.take (i + 1)) ∧ μ' la = some (.dct []) ∧ ∃ d4 d5 d6 d7, ρ = [some (dR pw), some (stD s), some (dR A), some (dR lf), d4, d5, d6, d7], ?_, ?_, ?_⟩
      · refine ⟨⟨m2.old, m2.hA, m2.hlf, fun t ht hk => ?_, m2.vA⟩, mla2, _, _, _, _, rfl⟩
        rw [m2.hl t ht hk]
        simp
      · clear m2 mla2 hlfn mla m
        rintro j x ρ μ2 hx ⟨m, mla, d4, d5, d6, d7, rfl⟩
        obtain ⟨t, ht, rfl⟩ := map_get hx
        have htm := L3 t (List.mem_of_getElem? ht)
        have htn := nodup_get L1 ht
        have hlA := hlkA t htm
        have hlt := m.hl t htm (by simp)
        rw [if_neg htn] at hlt
        (conv => whnf)
        refine ⟨stK t, (stK_D t).symm, _, m.hA, ?_⟩
        (conv => whnf)
        (split; rotate_left; (rename_i e_; exact nomatch ((hlA).symm.trans e_)); rename_i ts_ e_; cases ((hlA).symm.trans e_))
        (conv => whnf)
        refine ⟨⟨_, hlt⟩, ?_⟩
        (conv => whnf)
        refine ⟨_, hlt, ?_⟩
        (conv => whnf)
        have hfl : ((ss.take i).filter fun o => decide (t ∈ L o)).length ≤ ss.length := Nat.le_trans (List.length_filter_le _ _) (by rw [List.length_take]; omega)
        refine lenOk.mk (by simp; omega) ?_
        refine ⟨⟨fun b o nb e => ?_, ?_, ?_, fun u hu hk => ?_, m.vA⟩, (mup_ne (ap.la_ t htm).symm).trans mla, _, _, _, _, rfl⟩
        · have n2 : b ≠ adr t := fun z => by rw [z, ap.fa t htm] at e; cases e
          rw [mup_ne n2]; exact m.old b o nb e
        · rw [mup_ne (ap.aA t htm).symm]; exact m.hA
        · rw [mup_ne (ap.af t htm).symm]; exact m.hlf
        · by_cases e : u = t
          · subst e
            rw [mup_same, take_get ht, if_pos (by simp), List.append_nil, List.map_append] <;> rfl
          · rw [mup_ne fun z => e (ap.inj u hu t htm z), m.hl u hu hk, take_get ht]
            have : (u ∈ (L s).take j ++ [t]) ↔ u ∈ (L s).take j := by simp [e]
            simp only [this]
      · clear m2 mla2 hlfn mla m
        rintro ρ μ2 ⟨m, mla, d4, d5, d6, d7, rfl⟩
        refine ⟨⟨m.old, m.hA, m.hlf, fun t ht hk => ?_, m.vA⟩, mla, _, _, _, _, _, rfl⟩
        rw [m.hl t ht hk, take_get hs, List.filter_append]
        congr 3
        rw [List.length_map, List.take_of_length_le (Nat.le_refl _)]
        by_cases e : t ∈ L s <;> simp [e]
    · clear hpwA
      rintro ρ μ1 ⟨m, mla, d1, d4, d5, d6, d7, rfl⟩
      rw [keys_len, List.take_of_length_le (Nat.le_refl _)] at m
      (conv => whnf)
      refine ⟨_, m.old _ _ npl hpw, ?_⟩
      (conv => whnf)
      refine LcD.intro (fun i acc μ' => μ' = μ1 ∧ ∃ wt : List StM, acc = wt.map stD ∧ wt = (ss.take i).filter fun s => decide ((L s).length = 0)) ⟨rfl, [], rfl, rfl⟩ ?_ ?_
      · rintro i x acc μ2 hx ⟨rfl, wt, rfl, hwt⟩
        obtain ⟨s, hs, rfl⟩ := keys_get hx
        have hsm := List.mem_of_getElem? hs
        have hi := (List.getElem?_eq_some_iff.mp hs).1
        have hlv : lookD (fdct (fun s => dI ((L s).length : Nat)) ss) (stK s) = some (dI ((L s).length : Nat)) := look_f1 (f := fun s => dI ((L s).length : Nat)) hsm
        have hwl : wt.length ≤ i := by rw [hwt]; exact Nat.le_trans (List.length_filter_le _ _) (by rw [List.length_take]; omega)
        refine ⟨_, rfl, ?_⟩
        (conv => whnf)
        refine ⟨stK s, (stK_D s).symm, _, m.hlf, ?_⟩
        (conv => whnf)
        (split; rotate_left; (rename_i e_; exact nomatch ((hlv).symm.trans e_)); rename_i ts_ e_; cases ((hlv).symm.trans e_))
        (conv => whnf)
        refine ⟨rfl, fun hc => ?_, fun hc => ?_⟩
        · have hc : (L s).length = 0 := by
            have := V.int.inj (of_decide_eq_true hc)
            omega
          (conv => whnf)
          refine lenOk.mk (by simp; omega) ⟨rfl, wt ++ [s], by rw [List.map_append] <;> rfl, ?_⟩
          have e : [s].filter (fun s => decide ((L s).length = 0)) = [s] := by rw [List.filter_cons, if_pos (decide_eq_true hc)] <;> rfl
          rw [take_get hs, List.filter_append, ← hwt, e]
        · have hc : ¬ (L s).length = 0 := fun z => of_decide_eq_false hc (by rw [z] <;> rfl)
          refine ⟨rfl, wt, rfl, ?_⟩
          have e : [s].filter (fun s => decide ((L s).length = 0)) = [] := by rw [List.filter_cons, if_neg (fun z => hc (of_decide_eq_true z))] <;> rfl
          rw [take_get hs, List.filter_append, ← hwt, e, List.append_nil]
      · rintro ys μ2 ⟨rfl, wt, rfl, hwt⟩ wl hwl
        rw [keys_len, List.take_of_length_le (Nat.le_refl _)] at hwt
        have wA : wl ≠ A := fun z => by rw [z, m.hA] at hwl; cases hwl
        have wf : wl ≠ lf := fun z => by rw [z, m.hlf] at hwl; cases hwl
        have wa : wl ≠ la := fun z => by rw [z, mla] at hwl; cases hwl
        have ws : ∀ s ∈ ss, wl ≠ adr s := fun s hs z => by rw [z, m.hl s hs (by simp)] at hwl; cases hwl
        have w0 : μ wl = none := by
          cases e : μ wl with
          | none => rfl
          | some o => rw [m.old wl o wa e] at hwl; cases hwl
        (conv => whnf)
        refine ⟨fun mm ρ μ' => ∃ (ks : List StM) (len : StM → Nat) (wt : List StM) (val : StM → D) (lv : StM → Int), FillP ss L ks len ∧ Mem μ μ' ss adr A lf la ks val lv (preM ss L) ss ∧ (∀ s ∈ ss, lv s = (cntM L ks s : Nat)) ∧ μ' la = some (.dct (fdct (fun s => dI (len s : Nat)) ks)) ∧
          μ' wl = some (.lst (wt.map stD)) ∧ wt.Nodup ∧ (∀ s, s ∈ wt ↔ s ∈ ss ∧ s ∉ ks ∧ cntM L ks s = 0) ∧ mm = ss.length - ks.length ∧ ∃ d1 d4 d6 d7, ρ = [some (dR pw), d1, some (dR A), some (dR lf), d4, some (dR wl), d6, d7], ?_, ?_⟩
        · refine ⟨_, [], fun _ => 0, wt, fun s => dR (adr s), fun s => ((L s).length : Nat), FillP.nil _ _ _, ⟨fun b o nb e => ?_, ?_, ?_, fun s hs hk => ?_, m.vA⟩, fun s hs => ?_, ?_, mup_same, ?_, fun s => ?_, rfl, _, _, _, _, rfl⟩
          · have n1 : b ≠ wl := fun z => by rw [z, w0] at e; cases e
            rw [mup_ne n1]; exact m.old b o nb e
          · rw [mup_ne wA.symm]; exact m.hA
          · rw [mup_ne wf.symm]; exact m.hlf
          · rw [mup_ne (ws s hs).symm, m.hl s hs hk] <;> rfl
          · rw [cnt_nil]
          · rw [mup_ne wa.symm]; exact mla
          · rw [hwt]; exact hnd.filter _
          · rw [hwt, List.mem_filter, cnt_nil, decide_eq_true_eq]
            exact ⟨fun z => ⟨z.1, (fun y => nomatch y), z.2⟩, fun z => ⟨z.1, z.2.2⟩⟩
        · clear m mla hwt hwl
          clear wt
          rintro mm ρ μ3 ⟨ks, len, wt, val, lv, fp, m, hlv, mla, hwl, wnd, wmem, hmm, d1, d4, d6, d7, rfl⟩
          (conv => whnf)
          refine ⟨_, hwl, ?_⟩
          (conv => whnf)
          refine ⟨fun hc => ?_, fun hc => ?_⟩
          · have hne : wt ≠ [] := fun z => by
              subst z
              exact (ft_ hc)
            obtain ⟨wt', s, rfl⟩ : ∃ wt' s, wt = wt' ++ [s] := ⟨wt.dropLast, wt.getLast hne, (List.dropLast_concat_getLast hne).symm⟩
            obtain ⟨hsm, hsk, hs0⟩ := (wmem s).mp (by simp)
            have hl1 := hlk s hsm
            obtain ⟨L1, L2, L3⟩ := hL s hsm
            have hall := cnt_zero.mp hs0
            have e1 : ((wt' ++ [s]).map stD)[((wt' ++ [s]).map stD).length - 1]? = some (stD s) := by simp
            have e2 : ((wt' ++ [s]).map stD).dropLast = wt'.map stD := by simp
            have hkl : ks.length < ss.length := by
              have := nodup_le (l := s :: ks) (m := ss) (List.nodup_cons.mpr ⟨hsk, fp.nd⟩) fun x hx => by
                rcases List.mem_cons.mp hx with rfl | hx
                · exact hsm
                · exact fp.sub x hx
              simp at this; omega
            (conv => whnf)
            refine ⟨⟨_, hwl⟩, ?_⟩
            (conv => whnf)
            refine ⟨_, hwl, ?_⟩
            (conv => whnf)
            (split; rotate_left; (rename_i e_; exact nomatch ((e1).symm.trans e_)); rename_i ts_ e_; cases ((e1).symm.trans e_))
            rw [e2]
            obtain ⟨μ4, hμ4⟩ : ∃ μ4, μ4 = mup μ3 wl (.lst (wt'.map stD)) := ⟨_, rfl⟩
            rw [← hμ4]
            have hwl4 : μ4 wl = some (.lst (wt'.map stD)) := by rw [hμ4, mup_same]
            have mla4 : μ4 la = some (.dct (fdct (fun s => dI (len s : Nat)) ks)) := by rw [hμ4, mup_ne wa.symm]; exact mla
            have m4 : Mem μ μ4 ss adr A lf la ks val lv (preM ss L) ss := by
              refine ⟨fun b o nb e => ?_, ?_, ?_, fun s hs hk => ?_, m.vA⟩
              · have n1 : b ≠ wl := fun z => by rw [z, w0] at e; cases e
                rw [hμ4, mup_ne n1]; exact m.old b o nb e
              · rw [hμ4, mup_ne wA.symm]; exact m.hA
              · rw [hμ4, mup_ne wf.symm]; exact m.hlf
              · rw [hμ4, mup_ne (ws s hs).symm]; exact m.hl s hs hk
            clear m mla hwl hμ4 μ3
            (conv => whnf)
            refine ⟨_, m4.old _ _ npl hpw, ?_⟩
            (conv => whnf)
            refine ⟨stK s, (stK_D s).symm, ?_⟩
            (conv => whnf)
            (split; rotate_left; (rename_i e_; exact nomatch ((hl1).symm.trans e_)); rename_i ts_ e_; cases ((hl1).symm.trans e_))
            (conv => whnf)
            refine ⟨fun j ρ μ' => μ' = μ4 ∧ ∃ k : Nat, (∀ t ∈ (L s).take j, len t + 1 ≤ k) ∧ (k = 0 ∨ ∃ t ∈ L s, k = len t + 1) ∧ ∃ d4 d7, ρ = [some (dR pw), some (stD s), some (dR A), some (dR lf), d4, some (dR wl), some (dI (k : Nat)), d7], ?_, ?_, ?_⟩
            · exact ⟨rfl, 0, (fun t ht => nomatch ht), .inl rfl, _, _, rfl⟩
            · rintro j x ρ μ5 hx ⟨rfl, k, k1, k2, d4, d7, rfl⟩
              obtain ⟨t, ht, rfl⟩ := map_get hx
              have htm := List.mem_of_getElem? ht
              have hlt : lookD (fdct (fun s => dI (len s : Nat)) ks) (stK t) = some (dI (len t : Nat)) := look_f1 (f := fun s => dI (len s : Nat)) (hall t htm)
              (conv => whnf)
              refine ⟨_, m4.old _ _ npl hpw, ?_⟩
              (conv => whnf)
              refine ⟨stK t, (stK_D t).symm, _, mla4, ?_⟩
              (conv => whnf)
              (split; rotate_left; (rename_i e_; exact nomatch ((hlt).symm.trans e_)); rename_i ts_ e_; cases ((hlt).symm.trans e_))
              (conv => whnf)
              refine ⟨rfl, if k ≤ len t + 1 then len t + 1 else k, fun u hu => ?_, ?_, some (stD t), d7, ?_⟩
              · rw [take_get ht] at hu
                rcases List.mem_append.mp hu with z | z
                · have := k1 u z
                  split <;> omega
                · have : u = t := by simpa using z
                  subst this
                  split <;> omega
              · split
                · exact .inr ⟨t, htm, rfl⟩
                · exact k2
              · have : (if (1 : Int) + (len t : Nat) > (k : Nat) then (1 : Int) + (len t : Nat) else (k : Nat)) = ((if k ≤ len t + 1 then len t + 1 else k : Nat) : Int) := by
                  split <;> split <;> omega
                rw [← this] <;> rfl
            · rintro ρ μ5 ⟨rfl, k, k1, k2, d4, d7, rfl⟩
              rw [List.length_map, List.take_of_length_le (Nat.le_refl _)] at k1
              have fp2 := fp.add hsm hsk hall k1 k2
              (conv => whnf)
              refine ⟨_, m4.old _ _ npl hpw, ?_⟩
              (conv => whnf)
              refine ⟨stK s, _, (stK_D s).symm, mla4, lenOk.mk (by rw [fdct_len]; omega) ?_⟩
              (conv => whnf)
              obtain ⟨j0, hj0⟩ := List.getElem?_of_mem hsm
              have hkv : (fdct val ss)[j0]? = some (stK s, dR (adr s)) := by
                unfold fdct
                rw [List.getElem?_map, hj0]
                show some (stK s, val s) = _
                rw [m4.vA s hsm hsk]
              refine ⟨A, fdct val ss, j0, stK s, adr s, _, rfl, (mup_ne ap.lA.symm).trans m4.hA, hkv, (mup_ne (ap.la_ s hsm)).trans (m4.hl s hsm hsk), ap.aA s hsm, ap.fa s hsm, ?_⟩
              obtain ⟨val7, hval7⟩ : ∃ v, v = fupd val s (latD (preM ss L s)) := ⟨_, rfl⟩
              obtain ⟨μ7, hμ7⟩ : ∃ μ7, μ7 = mup (mdel (mup μ5 la (.dct (putD (fdct (fun s => dI (len s : Nat)) ks) (stK s) (dI (k : Nat))))) (adr s)) A (.dct ((fdct val ss).set j0 (stK s, .lst ((preM ss L s).map stD)))) := ⟨_, rfl⟩
              have m7 : Mem μ μ7 ss adr A lf la (ks ++ [s]) val7 lv (preM ss L) ss := by
                subst hμ7 hval7
                refine ⟨fun b o nb e => ?_, ?_, ?_, fun u hu hk => ?_, fun u hu hk => ?_⟩
                · have n1 : b ≠ A := fun z => by rw [z, hA0] at e; cases e
                  have n2 : b ≠ adr s := fun z => by rw [z, ap.fa s hsm] at e; cases e
                  rw [mup_ne n1, mdel_ne n2, mup_ne nb]; exact m4.old b o nb e
                · rw [mup_same, set_f hnd hj0] <;> rfl
                · rw [mup_ne ap.Af.symm, mdel_ne (ap.af s hsm).symm, mup_ne ap.ll.symm]; exact m4.hlf
                · have hus : u ≠ s := fun z => hk (by rw [z]; simp)
                  have huk : u ∉ ks := fun z => hk (List.mem_append_left _ z)
                  rw [mup_ne (ap.aA u hu), mdel_ne (fun z => hus (ap.inj u hu s hsm z)), mup_ne (ap.la_ u hu)]
                  exact m4.hl u hu huk
                · have hus : u ≠ s := fun z => hk (by rw [z]; simp)
                  have huk : u ∉ ks := fun z => hk (List.mem_append_left _ z)
                  rw [fupd_ne hus]; exact m4.vA u hu huk
              have hla7 : μ7 la = some (.dct (fdct (fun t => dI (fupd len s k t : Nat)) (ks ++ [s]))) := by
                rw [hμ7, mup_ne ap.lA, mdel_ne (ap.la_ s hsm).symm, mup_same, put_f2 hsk]
                congr 2
                refine fdct_congr fun u _ => ?_
                by_cases e : u = s
                · subst e; rw [fupd_same, fupd_same]
                · rw [fupd_ne e, fupd_ne e]
              have hwl7 : μ7 wl = some (.lst (wt'.map stD)) := by rw [hμ7, mup_ne wA, mdel_ne (ws s hsm), mup_ne wa]; exact hwl4
              have hlk7 : lookD (fdct val7 ss) (stK s) = some (latD (preM ss L s)) := by rw [look_f1 hsm, hval7, fupd_same]
              have hpsub : ∀ o ∈ preM ss L s, o ∈ ss ∧ s ∈ L o := fun o ho => by
                have := List.mem_filter.mp ho
                exact ⟨this.1, of_decide_eq_true this.2⟩
              have hpnd : (preM ss L s).Nodup := hnd.filter _
              have hplen : (preM ss L s).length ≤ 4000 := Nat.le_trans (List.length_filter_le _ _) hlen
              have hwl' : wt'.length ≤ 4000 := by
                have := nodup_le wnd fun x hx => ((wmem x).mp hx).1
                simp at this; omega
              subst hμ7
              (conv => whnf)
              refine ⟨stK s, (stK_D s).symm, _, m7.hA, ?_⟩
              (conv => whnf)
              (split; rotate_left; (rename_i e_; exact nomatch ((hlk7).symm.trans e_)); rename_i ts_ e_; cases ((hlk7).symm.trans e_))
              (conv => whnf)
              refine ⟨fun j ρ μ' => ∃ lv2 : StM → Int, Mem μ μ' ss adr A lf la (ks ++ [s]) val7 lv2 (preM ss L) ss ∧ (∀ o ∈ ss, lv2 o = (cntM L ks o : Nat) - (if o ∈ (preM ss L s).take j then 1 else 0)) ∧ μ' la = some (.dct (fdct (fun t => dI (fupd len s k t : Nat)) (ks ++ [s]))) ∧
                μ' wl = some (.lst ((wt' ++ ((preM ss L s).take j).filter fun o => decide (cntM L ks o = 1)).map stD)) ∧ ∃ d4 d7, ρ = [some (dR pw), some (stD s), some (dR A), some (dR lf), d4, some (dR wl), some (dI (k : Nat)), d7], ?_, ?_, ?_⟩
              · refine ⟨lv, m7, fun o ho => by rw [hlv o ho]; simp, hla7, hwl7.trans (by simp), _, _, rfl⟩
              · clear m7 hla7 hwl7 m4 mla4 hwl4
                rintro j x ρ μ8 hx ⟨lv2, m8, hlv2, hla8, hwl8, d4, d7, rfl⟩
                obtain ⟨o, ho, rfl⟩ := map_get hx
                have hom := List.mem_of_getElem? ho
                obtain ⟨hos, hsL⟩ := hpsub o hom
                have hon := nodup_get hpnd ho
                have hl8 : lookD (fdct (fun s => dI (lv2 s)) ss) (stK o) = some (dI (lv2 o)) := look_f1 (f := fun s => dI (lv2 s)) hos
                have hlo : lv2 o = (cntM L ks o : Nat) := by rw [hlv2 o hos, if_neg hon]; simp
                (conv => whnf)
                refine ⟨stK o, _, lv2 o, (stK_D o).symm, m8.hlf, hl8, ?_⟩
                (conv => whnf)
                refine ⟨_, m8.hlf, lenOk.mk (by rw [fdct_len]; omega) ?_⟩
                have m9 : Mem μ (mup μ8 lf (.dct (putD (fdct (fun s => dI (lv2 s)) ss) (stK o) (dI (lv2 o - 1))))) ss adr A lf la (ks ++ [s]) val7 (fupd lv2 o (lv2 o - 1)) (preM ss L) ss := by
                  refine ⟨fun b q nb e => ?_, ?_, ?_, fun u hu hk => ?_, m8.vA⟩
                  · have n1 : b ≠ lf := fun z => by rw [z, hf0] at e; cases e
                    rw [mup_ne n1]; exact m8.old b q nb e
                  · rw [mup_ne ap.Af]; exact m8.hA
                  · rw [mup_same, put_f1 hos]
                    congr 2
                    refine fdct_congr fun u _ => ?_
                    by_cases e : u = o
                    · subst e; rw [fupd_same, fupd_same]
                    · rw [fupd_ne e, fupd_ne e]
                  · rw [mup_ne (ap.af u hu)]; exact m8.hl u hu hk
                have hl9 : lookD (putD (fdct (fun s => dI (lv2 s)) ss) (stK o) (dI (lv2 o - 1))) (stK o) = some (dI (lv2 o - 1)) := by
                  rw [put_f1 hos, look_f1 hos, fupd_same]
                have hlv9 : ∀ u ∈ ss, fupd lv2 o (lv2 o - 1) u = (cntM L ks u : Nat) - (if u ∈ (preM ss L s).take (j + 1) then 1 else 0) := fun u hu => by
                  rw [take_get ho]
                  by_cases e : u = o
                  · subst e
                    rw [fupd_same, hlo, if_pos (by simp)]
                  · rw [fupd_ne e, hlv2 u hu]
                    have : (u ∈ (preM ss L s).take j ++ [o]) ↔ u ∈ (preM ss L s).take j := by simp [e]
                    simp only [this]
                have hla9 := (mup_ne (μ := μ8) (o := .dct (putD (fdct (fun s => dI (lv2 s)) ss) (stK o) (dI (lv2 o - 1)))) ap.ll).trans hla8
                have hwl9 := (mup_ne (μ := μ8) (o := .dct (putD (fdct (fun s => dI (lv2 s)) ss) (stK o) (dI (lv2 o - 1)))) wf).trans hwl8
                (conv => whnf)
                refine ⟨stK o, (stK_D o).symm, _, mup_same, ?_⟩
                (conv => whnf)
                (split; rotate_left; (rename_i e_; exact nomatch ((hl9).symm.trans e_)); rename_i ts_ e_; cases ((hl9).symm.trans e_))
                (conv => whnf)
                refine ⟨rfl, fun hc => ?_, fun hc => ?_⟩
                · have hc : cntM L ks o = 1 := by
                    have := V.int.inj (of_decide_eq_true hc)
                    rw [hlo] at this
                    omega
                  (conv => whnf)
                  refine ⟨⟨_, hwl9⟩, ?_⟩
                  (conv => whnf)
                  refine ⟨_, hwl9, ?_⟩
                  (conv => whnf)
                  have hfl : (((preM ss L s).take j).filter fun o => decide (cntM L ks o = 1)).length ≤ 4000 := Nat.le_trans (List.length_filter_le _ _) (by rw [List.length_take]; omega)
                  refine lenOk.mk (by simp; omega) ?_
                  refine ⟨fupd lv2 o (lv2 o - 1), ⟨fun b q nb e => ?_, ?_, ?_, fun u hu hk => ?_, m9.vA⟩, hlv9, (mup_ne wa.symm).trans hla9, ?_, _, _, rfl⟩
                  · have n1 : b ≠ wl := fun z => by rw [z, w0] at e; cases e
                    rw [mup_ne n1]; exact m9.old b q nb e
                  · rw [mup_ne wA.symm]; exact m9.hA
                  · rw [mup_ne wf.symm]; exact m9.hlf
                  · rw [mup_ne (ws u hu).symm]; exact m9.hl u hu hk
                  · have e : [o].filter (fun o => decide (cntM L ks o = 1)) = [o] := by rw [List.filter_cons, if_pos (decide_eq_true hc)] <;> rfl
                    rw [mup_same, take_get ho, List.filter_append, e, ← List.append_assoc, List.map_append (l₂ := [o])] <;> rfl
                · have hc : ¬ cntM L ks o = 1 := fun z => of_decide_eq_false hc (by rw [hlo, z] <;> rfl)
                  refine ⟨fupd lv2 o (lv2 o - 1), m9, hlv9, hla9, ?_, _, _, rfl⟩
                  have e : [o].filter (fun o => decide (cntM L ks o = 1)) = [] := by rw [List.filter_cons, if_neg (fun z => hc (of_decide_eq_true z))] <;> rfl
                  rw [hwl9, take_get ho, List.filter_append, e, List.append_nil]
              · clear m7 hla7 hwl7 m4 mla4 hwl4
                rintro ρ μ8 ⟨lv2, m8, hlv2, hla8, hwl8, d4, d7, rfl⟩
                rw [List.length_map, List.take_of_length_le (Nat.le_refl _)] at hwl8
                have hlv2 : ∀ o ∈ ss, lv2 o = (cntM L (ks ++ [s]) o : Nat) := fun o ho => by
                  have h5 := cnt_add (ks := ks) (s := s) (hL o ho).1 hsk
                  have h6 : (o ∈ preM ss L s) ↔ s ∈ L o := ⟨fun z => (hpsub o z).2, fun z => List.mem_filter.mpr ⟨ho, decide_eq_true z⟩⟩
                  rw [hlv2 o ho, List.length_map, List.take_of_length_le (Nat.le_refl _)]
                  simp only [h6]
                  split at h5
                  · rw [if_pos ‹_›]; omega
                  · rw [if_neg ‹_›]; omega
                refine ⟨ss.length - (ks ++ [s]).length, by rw [List.length_append, hmm]; simp; omega, ks ++ [s], fupd len s k, _, val7, lv2, fp2, m8, hlv2, hla8, hwl8, ?_, fun o => ?_, rfl, _, _, _, _, rfl⟩
                · rw [List.nodup_append]
                  refine ⟨(List.nodup_append.mp wnd).1, hpnd.filter _, fun x hx y hy z => ?_⟩
                  have h5 := ((wmem x).mp (List.mem_append_left _ hx)).2.2
                  have h6 := of_decide_eq_true (List.mem_filter.mp hy).2
                  rw [z] at h5
                  omega
                · have hnw : s ∉ wt' := fun z => (List.nodup_append.mp wnd).2.2 s z s (by simp) rfl
                  rw [List.mem_append, List.mem_filter, decide_eq_true_eq, List.mem_append, List.mem_singleton]
                  constructor
                  · rintro (z | ⟨z1, z2⟩)
                    · obtain ⟨q1, q2, q3⟩ := (wmem o).mp (List.mem_append_left _ z)
                      have h5 := cnt_add (ks := ks) (s := s) (hL o q1).1 hsk
                      refine ⟨q1, fun y => y.elim q2 (fun y => hnw (by rw [← y]; exact z)), by omega⟩
                    · obtain ⟨q1, q2⟩ := hpsub o z1
                      have h5 := cnt_add (ks := ks) (s := s) (hL o q1).1 hsk
                      rw [if_pos q2] at h5
                      refine ⟨q1, fun y => y.elim (fun y => hsk (fp.lo o y s q2).1) (fun y => ?_), by omega⟩
                      rw [y] at z2; omega
                  · rintro ⟨q1, q2, q3⟩
                    have q4 : o ∉ ks := fun z => q2 (.inl z)
                    have q5 : o ≠ s := fun z => q2 (.inr z)
                    have h5 := cnt_add (ks := ks) (s := s) (hL o q1).1 hsk
                    by_cases hsL : s ∈ L o
                    · rw [if_pos hsL] at h5
                      exact .inr ⟨List.mem_filter.mpr ⟨q1, decide_eq_true hsL⟩, by omega⟩
                    · rw [if_neg hsL] at h5
                      have := (wmem o).mpr ⟨q1, q4, by omega⟩
                      rcases List.mem_append.mp this with z | z
                      · exact .inl z
                      · exact absurd (by simpa using z) q5
          · have hwt : wt = [] := by
              cases wt with
              | nil => rfl
              | cons x xs =>
                have := of_decide_eq_false hc
                simp at this
                try omega
            subst hwt
            (conv => whnf)
            refine ⟨μ3, fun _ _ e => e, h ks len μ3 ⟨fp, fun s hs hk => ?_⟩ m.old mla⟩
            by_cases h0 : cntM L ks s = 0
            · exact absurd ((wmem s).mpr ⟨hs, hk, h0⟩) (by simp)
            · refine Classical.byContradiction fun hno => h0 (cnt_zero.mpr fun t ht => Classical.byContradiction fun hn => hno ⟨t, ht, hn⟩)
end
end K3
set_option Elab.async false
set_option linter.all false
set_option maxRecDepth 100000
set_option maxHeartbeats 800000
set_option pp.maxSteps 600
/-! KG15: Wait: its making, length. -/
namespace K3
open PySem PySem.Spec PyProof.Rows L2
def TgtM (R : RuleM) (n a : Nat) (s t : StM) : Prop := ∃ v ∈ vrM R.rows s.1 (sideM a s.2), ValidV a n s v ∧ ∃ c, EntryOf a n s v t c
structure LatOk (R : RuleM) (n a : Nat) (s : StM) (ts : List StM) : Prop where
  nd : ts.Nodup
  len : ts.length ≤ 2000
  mem : ∀ t, t ∈ ts ↔ TgtM R n a s t
theorem lat_of {R : RuleM} {n a : Nat} {s : StM} {found : List (StM × Ch)} (h : ChRaw R n a s (vrM R.rows s.1 (sideM a s.2)) found) (hl : found.length ≤ 2000) : LatOk R n a s (keysS found) where
  nd := h.nd
  len := by unfold keysS; rw [List.length_map]; exact hl
  mem := fun t => by
    constructor
    · intro ht
      obtain ⟨x, hx, rfl⟩ := List.mem_map.mp ht
      obtain ⟨v, h1, h2, h3⟩ := h.ok x hx
      exact ⟨v, h1, h2, x.2, h3⟩
    · rintro ⟨v, h1, h2, c, h3⟩
      exact h.all v h1 h2 t c h3
def waitD (K : PySem.W.Frag) (R : RuleM) (md : D) (n a : Nat) (kk la : Addr) (ss : List StM) (L : StM → List StM) : List D := [besD K R md n a kk, .dct (fdct (fun s => latD (L s)) ss), dR la]
def S_Wait (K : PySem.W.Frag) : DSp := fun xs μ Φ => ∃ (pw : Addr) (R : RuleM) (md : D) (n a : Nat) (ss : List StM) (g : StM → D), xs = [dR pw, ruleD K R md, dI (n : Int), dI (a : Int), .dct (fdct g ss)] ∧ μ pw = some (.ob (He.ga K "Wait") [] []) ∧ RowsOk R.rows ∧ a < n ∧ n < 60 ∧
  ss.Nodup ∧ (∀ s ∈ ss, s ∈ univM R n) ∧ ss.length ≤ 4000 ∧ (∀ s ∈ ss, ∀ t, TgtM R n a s t → t ∈ ss) ∧
  ∀ μ' kk la L ks len kn, kk ≠ pw → la ≠ pw → kk ≠ la → μ kk = none → μ la = none → KnOk R kn → (∀ s ∈ ss, LatOk R n a s (L s)) → FillOk ss L ks len → μ' pw = some (.ob (He.ga K "Wait") LWait (waitD K R md n a kk la ss L)) →
    μ' kk = some (.dct (knD R kn)) → μ' la = some (.dct (fdct (fun s => dI (len s : Nat)) ks)) → (∀ b o, b ≠ pw → μ b = some o → μ' b = some o) → Φ dN μ'
def S_length (K : PySem.W.Frag) : DSp := fun xs μ Φ => ∃ (bes wy : D) (la : Addr) (s : StM) (ks : List StM) (len : StM → Nat), xs = [.ob (He.ga K "Wait") LWait [bes, wy, dR la], stD s] ∧ μ la = some (.dct (fdct (fun s => dI (len s : Nat)) ks)) ∧ Φ (if s ∈ ks then dI (len s : Nat) else dN) μ
section
variable {P : Program} {w : World} {K : PySem.W.Frag} {mg : Str → Option Value} {base : Heap}
theorem sc_Wait_length : FnScope ["self", "state"] ["self", "state"] (defScope (inClass (top 45) 2)) := ⟨rfl, rfl, rfl, by decide +kernel, rfl, by decide +kernel, by decide +kernel⟩
theorem G_Wait_length (T : TF w K mg) (F : FnP K "Wait.length" "length" (inClass (top 45) 2) (He.ma K (He.ga K "Wait") "length")) (M : Meth K (He.ga K "Wait") "length" (He.ma K (He.ga K "Wait") "length"))  : MethG P w K mg base (He.ga K "Wait") "length" ["self", "state"] 1 ((S_length K)) := by
  refine methG_of F M sc_Wait_length (fun _ _ _ _ _ _ us hl => match us, hl with | [_, _], _ => rfl) ?_ ?_
  · (intro ds μ Φ h; first | (obtain ⟨_, rfl, _⟩ := h; rfl) | (obtain ⟨_, _, rfl, _⟩ := h; rfl) | (obtain ⟨_, _, _, rfl, _⟩ := h; rfl) | (obtain ⟨_, _, _, _, rfl, _⟩ := h; rfl) | (obtain ⟨_, _, _, _, _, rfl, _⟩ := h; rfl) | (obtain ⟨_, _, _, _, _, _, rfl, _⟩ := h; rfl) | (obtain ⟨_, _, _, _, _, _, _, rfl, _⟩ := h; rfl) | (obtain ⟨_, _, _, _, _, _, _, _, rfl, _⟩ := h; rfl) | (obtain ⟨_, _, _, _, _, _, _, _, _, rfl, _⟩ := h; rfl) | (obtain ⟨_, _, _, _, _, _, _, _, _, _, rfl, _⟩ := h; rfl) | (obtain ⟨_, _, _, _, _, _, _, _, _, _, _, rfl, _⟩ := h; rfl) | (obtain ⟨_, _, _, _, _, _, _, _, _, _, _, _, rfl, _⟩ := h; rfl))
  intro f cdv A outer s H E hr
  have nd := sc_Wait_length.nd
  refine ⟨_, (ss_one (s_ret (q_getd (hu_of hr) (q_fld (He.ga K "Wait") ["beside", "ways", "lengths"] 2 T.wait.cl (T.wait.na _ (by simp)) (q_var 0)) (a_cons (q_var 1) a_nil)))), ?_⟩
  clear hr nd F M
  rintro _ μ Φ ⟨bes, wy, la, s, ks, len, rfl, hla, h⟩
  have hlk := look_f (f := fun s => dI (len s : Nat)) (s := s) (ss := ks)
  (conv => whnf)
  refine ⟨rfl, rfl, ?_⟩
  (conv => whnf)
  refine ⟨_, hla, ?_⟩
  (conv => whnf)
  refine ⟨stK s, (stK_D s).symm, _, hla, ?_⟩
  (conv => whnf)
  by_cases hs : s ∈ ks
  · rw [if_pos hs] at hlk h
    split
    · rename_i d e
      cases hlk.symm.trans e
      exact ⟨_, fun _ _ e => e, h⟩
    · rename_i e
      exact nomatch hlk.symm.trans e
  · rw [if_neg hs] at hlk h
    split
    · rename_i d e
      exact nomatch hlk.symm.trans e
    · exact ⟨_, fun _ _ e => e, h⟩
theorem sc_Wait___init__ : FnScope ["self", "rule", "askers", "asker", "states", "state"] ["self", "rule", "askers", "asker", "states"] (defScope (inClass (top 45) 0)) := ⟨rfl, rfl, rfl, by decide +kernel, rfl, by decide +kernel, by decide +kernel⟩
theorem B_Wait___init__ (T : TF w K mg) (G_Beside___init__ : MakeG P w K mg base (He.ga K "Beside") ["self", "rule", "askers", "asker"] 1 ((S_Beside K))) (G_Beside_choices : MethG P w K mg base (He.ga K "Beside") "choices" ["self", "state"] 6 ((S_choices K))) (G_Wait_fill : MethG P w K mg base (He.ga K "Wait") "fill" ["self"] 1 ((S_fill K))) : ∀ {f : Addr} {cdv : Value} {A : Around} {outer : List Env} {s : Shared} {H : Hp} {E : XK}, Room 6 (A.deeper (envOfC "Wait.__init__" (defScope (inClass (top 45) 0)) s.heap.objs.size f cdv)) → ∃ ds, QSs (cxOf CX0 P w K mg base ["self", "rule", "askers", "asker", "states", "state"] "Wait.__init__" (defScope (inClass (top 45) 0)) f cdv A outer s H E).nox (defBody (inClass (top 45) 0)) ds ∧ ∀ args μ Φ, ((S_Wait K) : DSp) args μ Φ → ds (endD μ Φ) (startD (["self", "rule", "askers", "asker", "states", "state"] : List Str).length args) μ := by
  intro f cdv A outer s H E hr
  have nd := sc_Wait___init__.nd
  refine ⟨_, (ss_cons (s_fldNew (He.ga K "Wait") [] T.wait.cl (T.wait.na _ (by simp)) (by decide) (by decide) (q_makeF G_Beside___init__ (hr.mono (by decide)) rfl T.beside.g (a_cons (q_var 1) (a_cons (q_var 2) (a_cons (q_var 3) a_nil)))) (q_var 0))
      (ss_cons (s_fldNew (He.ga K "Wait") ["beside"] T.wait.cl (T.wait.na _ (by simp)) (by decide) (by decide) (q_dc (own := [("state", 5)]) (hu_of hr) (blk1 5) rfl nd (blkOk_by (own := [("state", 5)]) (by kernel_rfl)) (i_keys (q_var 4)) (fun _ _ _ _ _ => (pg_name (i := 5) nd rfl (.inl rfl))) (fun _ _ _ _ _ => (q_var 5)) (fun _ _ _ _ _ => (q_cty (call_listDn rfl) sim_listD rfl (T.free "list" (by simp)) (by decide +kernel) (a_cons (q_meth (He.ga K "Beside") ["rule", "askers", "asker", "known"] (q_fld (He.ga K "Wait") ["beside"] 0 T.wait.cl (T.wait.na _ (by simp)) (q_var 0)) T.beside.cl G_Beside_choices (hr.mono (by decide)) (by decide) (a_cons (q_var 5) a_nil)) a_nil)))) (q_var 0))
      (ss_cons (s_fldNew (He.ga K "Wait") ["beside", "ways"] T.wait.cl (T.wait.na _ (by simp)) (by decide) (by decide) q_dctM (q_var 0))
      (ss_one (s_expr (q_meth0 (He.ga K "Wait") ["beside", "ways", "lengths"] (q_var 0) T.wait.cl G_Wait_fill (hr.mono (by decide)) (by decide))))))), ?_⟩
  rintro _ μ Φ ⟨pw, R, md, n, a, ss, g, rfl, hpw, hok, han, hn60, hnd, hun, hlen, htg, h⟩
  (conv => whnf)
  intro p hp
  have npp : pw ≠ p := fun z => by rw [← z, hpw] at hp; cases hp
  refine ⟨p, _, _, _, rfl, mup_same, fun μ2 kk hkk nkp hoth hp2 hk2 => ⟨rfl, _, hp2, ?_⟩⟩
  have hkk0 : μ kk = none := by rw [mup_ne nkp] at hkk; exact hkk
  have nkw : kk ≠ pw := fun z => by rw [z, hpw] at hkk0; cases hkk0
  have hpw2 : mdel μ2 p pw = some (.ob (He.ga K "Wait") [] []) := by rw [mdel_ne npp, hoth pw npp nkw.symm, mup_ne npp]; exact hpw
  (conv => whnf)
  refine ⟨[], hpw2, ?_⟩
  have hp0 : μ p = none := hp
  have old2 : ∀ b o, b ≠ pw → μ b = some o → mdel μ2 p b = some o := fun b o nb e => by
    have n1 : b ≠ p := fun z => by rw [z, hp0] at e; cases e
    have n2 : b ≠ kk := fun z => by rw [z, hkk0] at e; cases e
    rw [mdel_ne n1, hoth b n1 n2, mup_ne n1]; exact e
  obtain ⟨μ3, hμ3⟩ : ∃ μ3, μ3 = mup (mdel μ2 p) pw (.ob (He.ga K "Wait") ["beside"] [besD K R md n a kk]) := ⟨_, rfl⟩
  have h3pw : μ3 pw = some (.ob (He.ga K "Wait") ["beside"] [besD K R md n a kk]) := by rw [hμ3, mup_same]
  have h3kk : μ3 kk = some (.dct (knD R [])) := by rw [hμ3, mup_ne nkw, mdel_ne nkp]; exact hk2
  have h3old : ∀ b o, b ≠ pw → μ b = some o → μ3 b = some o := fun b o nb e => by rw [hμ3, mup_ne nb]; exact old2 b o nb e
  subst hμ3
  (conv => whnf)
  refine DcD.intro (fun i acc μ' => ∃ (L : StM → List StM) (kn : List (Str × Str)), acc = fdct (fun s => latD (L s)) (ss.take i) ∧ KnOk R kn ∧ (∀ s ∈ ss.take i, LatOk R n a s (L s)) ∧ μ' pw = some (.ob (He.ga K "Wait") ["beside"] [besD K R md n a kk]) ∧ μ' kk = some (.dct (knD R kn)) ∧ ∀ b o, b ≠ pw → μ b = some o → μ' b = some o)
    ⟨fun _ => [], [], rfl, ⟨List.nodup_nil, (fun q hq => nomatch hq)⟩, (fun s hs => nomatch hs), h3pw, h3kk, h3old⟩ ?_ ?_
  · rintro i x acc μ' hx ⟨L, kn, rfl, hkn, hL, q1, q2, q3⟩
    obtain ⟨s, hs, rfl⟩ := keys_get hx
    have hsm := List.mem_of_getElem? hs
    have hn := nodup_get hnd hs
    have hi := (List.getElem?_eq_some_iff.mp hs).1
    refine ⟨_, rfl, ?_⟩
    (conv => whnf)
    refine ⟨_, q1, ?_⟩
    (conv => whnf)
    refine ⟨rfl, rfl, ?_⟩
    (conv => whnf)
    refine ⟨R, md, n, a, kk, s, kn, rfl, q2, hkn, hok, han, hn60, hun s hsm, fun kn' found hkn' hraw hfl => ?_⟩
    (conv => whnf)
    refine ⟨stK s, (stK_D s).symm, lenOk.mk (by rw [fdct_len, List.length_take]; omega) ?_⟩
    refine ⟨fupd L s (keysS found), kn', ?_, hkn', fun t ht => ?_, ?_, mup_same, fun b o nb e => ?_⟩
    · have e1 : (dctS chD found).map (fun kv => keyD kv.1) = (keysS found).map stD := by
        unfold dctS keysS
        rw [List.map_map, List.map_map]
        exact List.map_congr_left fun q _ => stK_D q.1
      show putD (fdct (fun s => latD (L s)) (ss.take i)) (stK s) (.lst ((dctS chD found).map fun kv => keyD kv.1)) = _
      rw [e1, put_f2 hn, take_get hs]
      refine fdct_congr fun t _ => ?_
      by_cases e : t = s
      · subst e; rw [fupd_same, fupd_same] <;> rfl
      · rw [fupd_ne e, fupd_ne e]
    · rw [take_get hs] at ht
      rcases List.mem_append.mp ht with z | z
      · rw [fupd_ne fun y => hn (by rw [← y]; exact z)]; exact hL t z
      · have : t = s := by simpa using z
        subst this
        rw [fupd_same]; exact lat_of hraw hfl
    · rw [mup_ne nkw.symm]; exact q1
    · have n2 : b ≠ kk := fun z => by rw [z, hkk0] at e; cases e
      rw [mup_ne n2]; exact q3 b o nb e
  · rintro kvs μ4 ⟨L, kn, rfl, hkn, hL, q1, q2, q3⟩
    rw [keys_len, List.take_of_length_le (Nat.le_refl _)] at hL ⊢
    (conv => whnf)
    refine ⟨_, q1, ?_⟩
    (conv => whnf)
    intro la hla
    have nlw : la ≠ pw := fun z => by rw [z, mup_same] at hla; cases hla
    have hla4 : μ4 la = none := by rw [mup_ne nlw] at hla; exact hla
    have nlk : kk ≠ la := fun z => by rw [← z, q2] at hla4; cases hla4
    have hla0 : μ la = none := by
      cases e : μ la with
      | none => rfl
      | some o => rw [q3 la o nlw e] at hla4; cases hla4
    (conv => whnf)
    refine ⟨_, (mup_ne nlw.symm).trans mup_same, ?_⟩
    (conv => whnf)
    refine ⟨_, mup_same, ?_⟩
    refine ⟨pw, la, besD K R md n a kk, ss, L, rfl, mup_same, ?_, hnd, fun s hs => ⟨(hL s hs).nd, Nat.le_trans (hL s hs).len (by decide), fun t ht => htg s hs t (((hL s hs).mem t).mp ht)⟩, hlen, fun ks len μ5 hf hold hl5 => ?_⟩
    · rw [mup_ne nlw, mup_same]
    · (conv => whnf)
      refine ⟨μ5, fun _ _ e => e, h μ5 kk la L ks len kn nkw nlw nlk hkk0 hla0 hkn hL hf (hold pw _ nlw.symm mup_same) (hold kk _ nlk ?_) hl5 fun b o nb e => ?_⟩
      · rw [mup_ne nkw, mup_ne nlk, mup_ne nkw]; exact q2
      · have n1 : b ≠ la := fun z => by rw [z, hla0] at e; cases e
        refine hold b o n1 ?_
        rw [mup_ne nb, mup_ne n1, mup_ne nb]; exact q3 b o nb e
end
end K3
set_option Elab.async false
set_option linter.all false
set_option maxRecDepth 100000
set_option maxHeartbeats 800000
set_option pp.maxSteps 600
/-! KG16: row. -/
namespace K3
open PySem PySem.Spec PyProof.Rows L2
inductive RowQ (R : RuleM) (n a : Nat) (s0 : StM) : List (List Nat) → StM → Prop
  | nil : RowQ R n a s0 [] s0
  | snoc {As : List (List Nat)} {s t : StM} {v : VR} {c : Ch} {A : List Nat} (h : RowQ R n a s0 As s) (hv : v ∈ vrM R.rows s.1 (sideM a s.2)) (hval : ValidV a n s v) (hE : EntryOf a n s v t c) (hA : A.Perm (c.asking.map (repM a n s c) ++ [a])) (hs : A.Pairwise (· ≤ ·)) : RowQ R n a s0 (As ++ [A]) t
def waitO (K : PySem.W.Frag) (R : RuleM) (md : D) (n a : Nat) (kk la : Addr) (ss : List StM) (L : StM → List StM) : D := .ob (He.ga K "Wait") LWait (waitD K R md n a kk la ss L)
def S_row (K : PySem.W.Frag) : DSp := fun xs μ Φ => ∃ (R : RuleM) (md : D) (n a : Nat) (kk la : Addr) (ss ks : List StM) (L : StM → List StM) (len : StM → Nat) (s : StM) (kn : List (Str × Str)), xs = [waitO K R md n a kk la ss L, stD s] ∧ kk ≠ la ∧ μ kk = some (.dct (knD R kn)) ∧ KnOk R kn ∧
  μ la = some (.dct (fdct (fun s => dI (len s : Nat)) ks)) ∧ RowsOk R.rows ∧ a < n ∧ n < 60 ∧ (∀ s ∈ ss, s ∈ univM R n) ∧ ss.length ≤ 4000 ∧ (∀ s ∈ ss, LatOk R n a s (L s)) ∧ FillOk ss L ks len ∧ s ∈ ks ∧
  ∀ As t kn', RowQ R n a s As t → As.length = len s → KnOk R kn' → Φ (.tup (As.map tupI)) (mup μ kk (.dct (knD R kn')))
theorem entry_ch {a n : Nat} {s t : StM} {v : VR} {c : Ch} (h : EntryOf a n s v t c) : c.asking = v.asking ∧ ∀ q, c.part = some q → ∃ sp, c.spot = some sp := by
  obtain ⟨vq, vp, vst, vl, vt⟩ := v
  cases vp with
  | none =>
    obtain ⟨_, rfl⟩ := h
    exact ⟨rfl, fun q z => nomatch z⟩
  | some q =>
    obtain ⟨e, he, z⟩ := h
    split at z
    · obtain ⟨_, rfl⟩ := z
      exact ⟨rfl, fun q _ => ⟨_, rfl⟩⟩
    · obtain ⟨spot, _, _, _, rfl⟩ := z
      exact ⟨rfl, fun q _ => ⟨_, rfl⟩⟩
section
variable {P : Program} {w : World} {K : PySem.W.Frag} {mg : Str → Option Value} {base : Heap}
theorem sc_Wait_row : FnScope ["self", "state", "found", "ways", "later", "one"] ["self", "state"] (defScope (inClass (top 45) 3)) := ⟨rfl, rfl, rfl, by decide +kernel, rfl, by decide +kernel, by decide +kernel⟩
theorem G_Wait_row (T : TF w K mg) (F : FnP K "Wait.row" "row" (inClass (top 45) 3) (He.ma K (He.ga K "Wait") "row")) (M : Meth K (He.ga K "Wait") "row" (He.ma K (He.ga K "Wait") "row")) (G_Beside_choices : MethG P w K mg base (He.ga K "Beside") "choices" ["self", "state"] 6 ((S_choices K))) (G_Beside_round_of : MethG P w K mg base (He.ga K "Beside") "round_of" ["self", "state", "choice"] 3 ((S_round_of K))) (G_Wait_length : MethG P w K mg base (He.ga K "Wait") "length" ["self", "state"] 1 ((S_length K))) : MethG P w K mg base (He.ga K "Wait") "row" ["self", "state"] 7 ((S_row K)) := by
  refine methG_of F M sc_Wait_row (fun _ _ _ _ _ _ us hl => match us, hl with | [_, _], _ => rfl) ?_ ?_
  · (intro ds μ Φ h; first | (obtain ⟨_, rfl, _⟩ := h; rfl) | (obtain ⟨_, _, rfl, _⟩ := h; rfl) | (obtain ⟨_, _, _, rfl, _⟩ := h; rfl) | (obtain ⟨_, _, _, _, rfl, _⟩ := h; rfl) | (obtain ⟨_, _, _, _, _, rfl, _⟩ := h; rfl) | (obtain ⟨_, _, _, _, _, _, rfl, _⟩ := h; rfl) | (obtain ⟨_, _, _, _, _, _, _, rfl, _⟩ := h; rfl) | (obtain ⟨_, _, _, _, _, _, _, _, rfl, _⟩ := h; rfl) | (obtain ⟨_, _, _, _, _, _, _, _, _, rfl, _⟩ := h; rfl) | (obtain ⟨_, _, _, _, _, _, _, _, _, _, rfl, _⟩ := h; rfl) | (obtain ⟨_, _, _, _, _, _, _, _, _, _, _, rfl, _⟩ := h; rfl) | (obtain ⟨_, _, _, _, _, _, _, _, _, _, _, _, rfl, _⟩ := h; rfl))
  intro f cdv A outer s H E hr
  have nd := sc_Wait_row.nd
  refine ⟨_, (ss_cons (s_set 2 nd (q_lstM a_nil))
      (ss_cons (s_while PassesOwn.never (t_gt (q_meth (He.ga K "Wait") ["beside", "ways", "lengths"] (q_var 0) T.wait.cl G_Wait_length (hr.mono (by decide)) (by decide) (a_cons (q_var 1) a_nil)) q_int) (ss_cons (s_set 3 nd (q_meth (He.ga K "Beside") ["rule", "askers", "asker", "known"] (q_fld (He.ga K "Wait") ["beside", "ways", "lengths"] 0 T.wait.cl (T.wait.na _ (by simp)) (q_var 0)) T.beside.cl G_Beside_choices (hr.mono (by decide)) (by decide) (a_cons (q_var 1) a_nil)))
      (ss_cons (s_set 4 nd (q_ix (q_lc (own := [("one", 5)]) (blk1 5) rfl nd (blkOk_by (own := [("one", 5)]) (by kernel_rfl)) (i_keys (q_var 3)) (fun _ _ _ _ _ => (pg_name (i := 5) nd rfl (.inl rfl))) (fun _ _ _ _ _ => (ts_one (t_eq (q_add (q_meth (He.ga K "Wait") ["beside", "ways", "lengths"] (q_var 0) T.wait.cl G_Wait_length (hr.mono (by decide)) (by decide) (a_cons (q_var 5) a_nil)) q_int) (q_meth (He.ga K "Wait") ["beside", "ways", "lengths"] (q_var 0) T.wait.cl G_Wait_length (hr.mono (by decide)) (by decide) (a_cons (q_var 1) a_nil))))) (fun _ _ _ _ _ => (q_var 5))) q_int))
      (ss_cons (s_expr (q_lm PySem.F.plainAttrs_list PySem.F.slot_list_append PySem.F.type_list_append mt_append simLm_app lmApp_mono (q_var 2) (a_cons (q_meth (He.ga K "Beside") ["rule", "askers", "asker", "known"] (q_fld (He.ga K "Wait") ["beside", "ways", "lengths"] 0 T.wait.cl (T.wait.na _ (by simp)) (q_var 0)) T.beside.cl G_Beside_round_of (hr.mono (by decide)) (by decide) (a_cons (q_var 1) (a_cons (q_dGet (hu_of hr) (q_var 3) (q_var 4)) a_nil))) a_nil)))
      (ss_one (s_set 1 nd (q_var 4)))))))
      (ss_one (s_ret (q_cty call_tuple_of sim_tuple rfl (T.free "tuple" (by simp)) (by decide +kernel) (a_cons (q_var 2) a_nil)))))), ?_⟩
  clear hr nd F M
  rintro _ μ Φ ⟨R, md, n, a, kk, la, ss, ks, L, len, s0, kn0, rfl, nkl, hkk, hkn0, hla, hok, han, hn60, hun, hsl, hL, hf, hs0, h⟩
  (conv => whnf)
  intro f hf0
  have nfk : kk ≠ f := fun z => by rw [z, hf0] at hkk; cases hkk
  have nfl : la ≠ f := fun z => by rw [z, hf0] at hla; cases hla
  (conv => whnf)
  refine ⟨fun m ρ μ' => ∃ As st kn, RowQ R n a s0 As st ∧ As.length + len st = len s0 ∧ m = len st ∧ st ∈ ks ∧ KnOk R kn ∧ μ' f = some (.lst (As.map tupI)) ∧ μ' kk = some (.dct (knD R kn)) ∧ (∀ b, b ≠ f → b ≠ kk → μ' b = μ b) ∧
    ∃ d3 d4 d5, ρ = [some (waitO K R md n a kk la ss L), some (stD st), some (dR f), d3, d4, d5], ?_, ?_⟩
  · exact ⟨_, [], s0, kn0, .nil, by simp, rfl, hs0, hkn0, mup_same, (mup_ne nfk).trans hkk, fun b h1 h2 => mup_ne h1, _, _, _, rfl⟩
  · rintro m ρ μ1 ⟨As, st, kn, hq, hal, rfl, hst, hkn, hff, hk1, hoth, d3, d4, d5, rfl⟩
    have hla1 : μ1 la = some (.dct (fdct (fun s => dI (len s : Nat)) ks)) := (hoth la nfl nkl.symm).trans hla
    have hlen0 : len s0 < 4001 := by
      have h1 := hf.bd s0 hs0
      have h2 := nodup_le hf.nd hf.sub
      omega
    have hstss := hf.sub st hst
    (conv => whnf)
    refine ⟨rfl, rfl, ?_⟩
    (conv => whnf)
    refine ⟨_, _, la, st, ks, len, rfl, hla1, ?_⟩
    rw [if_pos hst]
    (conv => whnf)
    refine ⟨fun hc => ?_, fun hc => ?_⟩
    · have hpos : 0 < len st := by
        have := of_decide_eq_true hc
        omega
      (conv => whnf)
      refine ⟨rfl, rfl, ?_⟩
      (conv => whnf)
      refine ⟨rfl, rfl, ?_⟩
      (conv => whnf)
      refine ⟨R, md, n, a, kk, st, kn, rfl, hk1, hkn, hok, han, hn60, hun st hstss, fun kn2 found hkn2 hraw hfl => ?_⟩
      obtain ⟨μ2, hμ2⟩ : ∃ μ2, μ2 = mup μ1 kk (.dct (knD R kn2)) := ⟨_, rfl⟩
      have hla2 : μ2 la = some (.dct (fdct (fun s => dI (len s : Nat)) ks)) := by rw [hμ2, mup_ne nkl.symm]; exact hla1
      have hff2 : μ2 f = some (.lst (As.map tupI)) := by rw [hμ2, mup_ne nfk.symm]; exact hff
      have hk2 : μ2 kk = some (.dct (knD R kn2)) := by rw [hμ2, mup_same]
      have hoth2 : ∀ b, b ≠ f → b ≠ kk → μ2 b = μ b := fun b h1 h2 => by rw [hμ2, mup_ne h2]; exact hoth b h1 h2
      rw [← hμ2]
      clear hμ2
      have hlat := lat_of hraw hfl
      have hkeys : ∀ t ∈ keysS found, t ∈ L st := fun t ht => ((hL st hstss).mem t).mpr ((hlat.mem t).mp ht)
      have hkk3 : ∀ t ∈ keysS found, t ∈ ks := fun t ht => (hf.lo st hst t (hkeys t ht)).1
      (conv => whnf)
      refine LcD.intro (fun i acc μ' => μ' = μ2 ∧ ∃ ts : List StM, acc = ts.map stD ∧ ts = ((keysS found).take i).filter fun t => decide (len t + 1 = len st)) ⟨rfl, [], rfl, rfl⟩ ?_ ?_
      · rintro i x acc μ3 hx ⟨rfl, ts, rfl, hts⟩
        have hx : ∃ t, (keysS found)[i]? = some t ∧ x = stD t := by
          unfold dctS at hx
          rw [List.map_map] at hx
          obtain ⟨q, hq, rfl⟩ := map_get hx
          exact ⟨q.1, by unfold keysS; rw [List.getElem?_map, hq] <;> rfl, stK_D q.1⟩
        obtain ⟨t, ht, rfl⟩ := hx
        have htk := hkk3 t (List.mem_of_getElem? ht)
        have hi := (List.getElem?_eq_some_iff.mp ht).1
        have hkl : (keysS found).length = found.length := by unfold keysS; rw [List.length_map]
        have htl : ts.length ≤ i := by rw [hts]; exact Nat.le_trans (List.length_filter_le _ _) (by rw [List.length_take]; omega)
        refine ⟨_, rfl, ?_⟩
        (conv => whnf)
        refine ⟨rfl, rfl, ?_⟩
        (conv => whnf)
        refine ⟨_, _, la, t, ks, len, rfl, hla2, ?_⟩
        rw [if_pos htk]
        (conv => whnf)
        refine ⟨rfl, rfl, ?_⟩
        (conv => whnf)
        refine ⟨_, _, la, st, ks, len, rfl, hla2, ?_⟩
        rw [if_pos hst]
        (conv => whnf)
        refine ⟨rfl, fun hc => ?_, fun hc => ?_⟩
        · have hc : len t + 1 = len st := by
            have := V.int.inj (of_decide_eq_true hc)
            omega
          (conv => whnf)
          refine lenOk.mk (by simp; omega) ⟨rfl, ts ++ [t], by rw [List.map_append] <;> rfl, ?_⟩
          have e : [t].filter (fun t => decide (len t + 1 = len st)) = [t] := by rw [List.filter_cons, if_pos (decide_eq_true hc)] <;> rfl
          rw [take_get ht, List.filter_append, ← hts, e]
        · have hc : ¬ len t + 1 = len st := fun z => of_decide_eq_false hc (by rw [← z] <;> rfl)
          have e : [t].filter (fun t => decide (len t + 1 = len st)) = [] := by rw [List.filter_cons, if_neg (fun z => hc (of_decide_eq_true z))] <;> rfl
          exact ⟨rfl, ts, rfl, by rw [take_get ht, List.filter_append, ← hts, e, List.append_nil]⟩
      · rintro ys μ3 ⟨rfl, ts, rfl, hts⟩
        have hkl : ((dctS chD found).map fun kv => keyD kv.1).length = (keysS found).length := by unfold dctS keysS; simp
        rw [hkl, List.take_of_length_le (Nat.le_refl _)] at hts
        obtain ⟨t0, ht0, e0⟩ : ∃ t ∈ L st, len st = len t + 1 := by
          rcases hf.hi st hst with z | z
          · omega
          · exact z
        have ht0f : t0 ∈ ts := by
          rw [hts, List.mem_filter]
          exact ⟨(hlat.mem t0).mpr (((hL st hstss).mem t0).mp ht0), decide_eq_true e0.symm⟩
        obtain ⟨t, ts', rfl⟩ : ∃ t ts', ts = t :: ts' := by
          cases ts with
          | nil => cases ht0f
          | cons t ts' => exact ⟨t, ts', rfl⟩
        have htm : t ∈ keysS found ∧ len t + 1 = len st := by
          have : t ∈ (keysS found).filter fun t => decide (len t + 1 = len st) := by rw [← hts]; simp
          have := List.mem_filter.mp this
          exact ⟨this.1, of_decide_eq_true this.2⟩
        obtain ⟨c, hc⟩ := lookS_some htm.1
        obtain ⟨v, hv, hval, hE⟩ := hraw.ok _ (lookS_mem hc)
        obtain ⟨hca, hcs⟩ := entry_ch hE
        have hside := sideM_mem a st.2
        have hask := (vr_mem hv).1
        have e1 : atI ((t :: ts').map stD) (0 : Int) = some (stD t) := atI_nat (i := 0) rfl
        have e2 : lookD (dctS chD found) (stK t) = some (chD c) := by rw [lookD_S, hc] <;> rfl
        (conv => whnf)
        (split; rotate_left; (rename_i e_; exact nomatch ((e1).symm.trans e_)); rename_i ts_ e_; cases ((e1).symm.trans e_))
        (conv => whnf)
        refine ⟨⟨_, hff2⟩, ?_⟩
        (conv => whnf)
        refine ⟨rfl, rfl, ?_⟩
        (conv => whnf)
        refine ⟨rfl, rfl, ?_⟩
        (conv => whnf)
        refine ⟨stK t, (stK_D t).symm, ?_⟩
        (conv => whnf)
        (split; rotate_left; (rename_i e_; exact nomatch ((e2).symm.trans e_)); rename_i ts_ e_; cases ((e2).symm.trans e_))
        (conv => whnf)
        refine ⟨R, md, n, a, kk, st, c, rfl, fun q hq => ?_, hcs, ?_, fun A hA hAs => ?_⟩
        · rw [hca] at hq
          obtain ⟨z1, z2⟩ := lots_line hside v.asking hask q hq
          exact iv_some a n st.2 z1 z2
        · rw [hca]; exact (lots_len hside).2 v.asking hask
        · (conv => whnf)
          refine ⟨_, hff2, ?_⟩
          (conv => whnf)
          refine lenOk.mk (by simp; omega) ?_
          (conv => whnf)
          refine ⟨len t, by omega, As ++ [A], t, kn2, .snoc hq hv hval hE hA hAs, by simp; omega, rfl, hkk3 t htm.1, hkn2, ?_, (mup_ne nfk).trans hk2, fun b h1 h2 => (mup_ne h1).trans (hoth2 b h1 h2), _, _, _, rfl⟩
          rw [mup_same, List.map_append] <;> rfl
    · have hz : len st = 0 := by
        have := of_decide_eq_false hc
        omega
      (conv => whnf)
      refine ⟨_, hff, ?_⟩
      (conv => whnf)
      refine ⟨mup μ kk (.dct (knD R kn)), fun b o e => ?_, h As st kn hq (by omega) hkn⟩
      by_cases n1 : b = kk
      · subst n1
        rw [mup_same] at e
        rw [hk1]; exact e
      · rw [mup_ne n1] at e
        have n2 : b ≠ f := fun z => by rw [z, hf0] at e; cases e
        rw [hoth b n2 n1]; exact e
end
end K3
set_option Elab.async false
set_option linter.all false
set_option maxRecDepth 100000
set_option maxHeartbeats 800000
set_option pp.maxSteps 600
/-! KG17: longest, waits. -/
namespace K3
open PySem PySem.Spec PyProof.Rows L2
def TgtCl (R : RuleM) (n : Nat) : Prop := ∀ ss : List StM, (R.first, none) ∈ ss → (∀ s ∈ ss, s ∈ univM R n) → (∀ s ∈ ss, ∀ a, a < n → succM R.rows n s a ∈ ss) → ∀ a, a < n → ∀ s ∈ ss, ∀ t, TgtM R n a s t → t ∈ ss
/-- what is known of the askers' waits -/
structure WaitsM (R : RuleM) (n : Nat) (ways : List (StM × List Nat)) (Ls : Nat → StM → List StM) (kss : Nat → List StM) (lens : Nat → StM → Nat) (a : Nat) : Prop where
  lat : ∀ s ∈ keysS ways, LatOk R n a s (Ls a s)
  fill : FillOk (keysS ways) (Ls a) (kss a) (lens a)
structure LongP (R : RuleM) (n : Nat) (r : Option (Nat × List Nat × List (List Nat))) : Prop where
  ex : ∃ ways Ls kss lens, WI R n ways ∧ (∀ s ∈ keysS ways, ClosedM R.rows n ways s) ∧
    match r with
    | none => ∃ a, a < n ∧ WaitsM R n ways Ls kss lens a ∧ ∃ s ∈ keysS ways, s ∉ kss a
    | some (a, p, As) => (∀ b, b < n → WaitsM R n ways Ls kss lens b ∧ ∀ s ∈ keysS ways, s ∈ kss b) ∧ a < n ∧ ∃ s t, (s, p) ∈ ways ∧ RowQ R n a s As t ∧ As.length = lens a s ∧ ∀ b, b < n → ∀ s' ∈ keysS ways, lens b s' ≤ lens a s
def bestD (r : Option (Nat × List Nat × List (List Nat))) : D := match r with
  | none => dN
  | some (a, p, As) => .tup [dI (a : Int), pthD p, .tup (As.map tupI)]
def S_longest (K : PySem.W.Frag) : DSp := fun xs μ Φ => ∃ (R : RuleM) (md : D) (n : Nat), xs = [ruleD K R md, dI (n : Int)] ∧ RowsOk R.rows ∧ 0 < n ∧ n < 60 ∧ TgtCl R n ∧ ∀ r, LongP R n r → Φ (bestD r) μ
/-- the best so far, over the pairs in dom -/
def BestM (R : RuleM) (n : Nat) (ways : List (StM × List Nat)) (lens : Nat → StM → Nat) (dom : Nat → StM → Prop) (most : Int) (r : Option (Nat × List Nat × List (List Nat))) : Prop :=
  ((∀ a s, ¬ dom a s) ∧ most = -1 ∧ r = none) ∨ ∃ a s p As t, dom a s ∧ (s, p) ∈ ways ∧ RowQ R n a s As t ∧ As.length = lens a s ∧ most = (lens a s : Nat) ∧ r = some (a, p, As) ∧ ∀ b s', dom b s' → lens b s' ≤ lens a s
theorem dctS_fd {ways : List (StM × List Nat)} (nd : (keysS ways).Nodup) : dctS pthD ways = fdct (fun s => pthD ((lookS ways s).getD [])) (keysS ways) := by
  unfold dctS fdct keysS
  rw [List.map_map]
  refine List.map_congr_left fun q hq => ?_
  show (stK q.1, pthD q.2) = (stK q.1, pthD ((lookS ways q.1).getD []))
  rw [lookS_of_mem nd hq] <;> rfl
theorem dk_get {α : Type} {f : α → D} {xs : List (StM × α)} {i : Nat} {x : D} (h : ((dctS f xs).map fun kv => keyD kv.1)[i]? = some x) : ∃ s, (keysS xs)[i]? = some s ∧ x = stD s := by
  unfold dctS at h
  rw [List.map_map] at h
  obtain ⟨q, hq, rfl⟩ := map_get h
  exact ⟨q.1, by unfold keysS; rw [List.getElem?_map, hq] <;> rfl, stK_D q.1⟩
theorem dk_len {α : Type} {f : α → D} {xs : List (StM × α)} : ((dctS f xs).map fun kv => keyD kv.1).length = (keysS xs).length := by unfold dctS keysS; simp
theorem BestM.to {R : RuleM} {n : Nat} {ways : List (StM × List Nat)} {lens lens' : Nat → StM → Nat} {dom dom' : Nat → StM → Prop} {most : Int} {r : Option (Nat × List Nat × List (List Nat))} (h : BestM R n ways lens dom most r) (hd : ∀ a s, dom a s ↔ dom' a s) (he : ∀ a s, dom a s → lens a s = lens' a s) : BestM R n ways lens' dom' most r := by
  rcases h with ⟨z, z1, z2⟩ | ⟨a, s, p, As, t, y1, y2, y3, y4, y5, y6, y7⟩
  · exact .inl ⟨fun a s q => z a s ((hd a s).mpr q), z1, z2⟩
  · refine .inr ⟨a, s, p, As, t, (hd a s).mp y1, y2, y3, by rw [y4, he a s y1], by rw [y5, he a s y1], y6, fun b s' q => ?_⟩
    have q' := (hd b s').mpr q
    rw [← he b s' q', ← he a s y1]; exact y7 b s' q'
def S_waits (K : PySem.W.Frag) : DSp := fun xs μ Φ => ∃ (R : RuleM) (md : D) (n : Nat), xs = [ruleD K R md, dI (n : Int)] ∧ RowsOk R.rows ∧ 0 < n ∧ n < 60 ∧ TgtCl R n ∧ ∀ r, LongP R n r → Φ (match r with | none => dN | some (_, _, As) => dI (As.length : Nat)) μ
section
variable {P : Program} {w : World} {K : PySem.W.Frag} {mg : Str → Option Value} {base : Heap}
theorem sc_longest : FnScope ["rule", "askers", "states", "most", "found", "asker", "wait", "state", "many"] ["rule", "askers"] (defScope (top 46)) := ⟨rfl, rfl, rfl, by decide +kernel, rfl, by decide +kernel, by decide +kernel⟩
theorem G_longest (T : TF w K mg) (F : FnP K "longest" "longest" (top 46) (He.ga K "longest")) (hm : mg "longest" = some (.ref (He.ga K "longest"))) (G_Wait___init__ : MakeG P w K mg base (He.ga K "Wait") ["self", "rule", "askers", "asker", "states"] 7 ((S_Wait K))) (G_Wait_length : MethG P w K mg base (He.ga K "Wait") "length" ["self", "state"] 1 ((S_length K))) (G_Wait_row : MethG P w K mg base (He.ga K "Wait") "row" ["self", "state"] 7 ((S_row K))) (G_ways_to : FnG P w K mg base "ways_to" ["rule", "askers"] 4 ((S_ways_to K))) : FnG P w K mg base "longest" ["rule", "askers"] 9 ((S_longest K)) := by
  refine fnG_of F hm sc_longest (fun _ _ _ _ _ _ us hl => match us, hl with | [_, _], _ => rfl) ?_ ?_
  · (intro ds μ Φ h; first | (obtain ⟨_, rfl, _⟩ := h; rfl) | (obtain ⟨_, _, rfl, _⟩ := h; rfl) | (obtain ⟨_, _, _, rfl, _⟩ := h; rfl) | (obtain ⟨_, _, _, _, rfl, _⟩ := h; rfl) | (obtain ⟨_, _, _, _, _, rfl, _⟩ := h; rfl) | (obtain ⟨_, _, _, _, _, _, rfl, _⟩ := h; rfl) | (obtain ⟨_, _, _, _, _, _, _, rfl, _⟩ := h; rfl) | (obtain ⟨_, _, _, _, _, _, _, _, rfl, _⟩ := h; rfl) | (obtain ⟨_, _, _, _, _, _, _, _, _, rfl, _⟩ := h; rfl) | (obtain ⟨_, _, _, _, _, _, _, _, _, _, rfl, _⟩ := h; rfl) | (obtain ⟨_, _, _, _, _, _, _, _, _, _, _, rfl, _⟩ := h; rfl) | (obtain ⟨_, _, _, _, _, _, _, _, _, _, _, _, rfl, _⟩ := h; rfl))
  intro f cdv A outer s H E hr
  have nd := sc_longest.nd
  refine ⟨_, (ss_cons (s_set 2 nd (q_call G_ways_to (hr.mono (by decide)) rfl (a_cons (q_var 0) (a_cons (q_var 1) a_nil))))
      (ss_cons (s_asg (q_tup (a_cons (q_un un_neg sim_neg q_int) (a_cons q_non a_nil))) (g_tup rfl (gs_cons (g_name (i := 3) nd rfl (.inl rfl)) (gs_cons (g_name (i := 4) nd rfl (.inl rfl)) gs_nil))))
      (ss_cons (s_for PassesOwn.never rfl (i_range1 rfl (T.free "range" (by simp)) (a_cons (q_var 1) a_nil)) (g_name (i := 5) nd rfl (.inl rfl)) (ss_cons (s_set 6 nd (q_makeF G_Wait___init__ (hr.mono (by decide)) rfl T.wait.g (a_cons (q_var 0) (a_cons (q_var 1) (a_cons (q_var 5) (a_cons (q_var 2) a_nil))))))
      (ss_one (s_for PassesOwn.never rfl (i_keys (q_var 2)) (g_name (i := 7) nd rfl (.inl rfl)) (ss_cons (s_set 8 nd (q_meth (He.ga K "Wait") ["beside", "ways", "lengths"] (q_var 6) T.wait.cl G_Wait_length (hr.mono (by decide)) (by decide) (a_cons (q_var 7) a_nil)))
      (ss_cons (s_if (t_isN (q_var 8)) (ss_one (s_ret q_non)) ss_nil)
      (ss_one (s_if (t_gt (q_var 8) (q_var 3)) (ss_one (s_par 3 4 rfl nd (a_cons (q_var 8) (a_cons (q_tup (a_cons (q_var 5) (a_cons (q_dGet (hu_of hr) (q_var 2) (q_var 7)) (a_cons (q_meth (He.ga K "Wait") ["beside", "ways", "lengths"] (q_var 6) T.wait.cl G_Wait_row (hr.mono (by decide)) (by decide) (a_cons (q_var 7) a_nil)) a_nil)))) a_nil)) rfl)) ss_nil))))))))
      (ss_one (s_ret (q_var 4)))))), ?_⟩
  clear hr nd F hm
  rintro _ μ Φ ⟨R, md, n, rfl, hok, hn0, hn60, htc, h⟩
  (conv => whnf)
  refine ⟨R, md, n, rfl, hok.1, hn60, fun ways hw hcl => ?_⟩
  have hwl := hw.len
  have hr60 := hok.1
  have hwl : ways.length ≤ 3600 := Nat.le_trans hwl (Nat.le_trans (Nat.mul_le_mul (show R.rows.length + 1 ≤ 60 by omega) (show n + 1 ≤ 60 by omega)) (by decide))
  have hkl : (keysS ways).length = ways.length := by unfold keysS; rw [List.length_map]
  have htg := htc (keysS ways) hw.st hw.un fun s hs a ha => hcl s hs a ha
  (conv => whnf)
  refine ⟨⟨by omega, by omega⟩, fun i ρ μ' => ∃ Ls kss lens most r, (∀ b, b < i → WaitsM R n ways Ls kss lens b ∧ ∀ s ∈ keysS ways, s ∈ kss b) ∧ BestM R n ways lens (fun b s => b < i ∧ s ∈ keysS ways) most r ∧ (∀ b o, μ b = some o → μ' b = some o) ∧
    ∃ d5 d6 d7 d8, ρ = [some (ruleD K R md), some (dI (n : Int)), some (.dct (dctS pthD ways)), some (dI most), some (bestD r), d5, d6, d7, d8], ?_, ?_, ?_⟩
  · exact ⟨fun _ _ => [], fun _ => [], fun _ _ => 0, -1, none, fun b hb => absurd hb (Nat.not_lt_zero b), .inl ⟨fun a s z => absurd z.1 (Nat.not_lt_zero a), rfl, rfl⟩, fun b o e => e, _, _, _, _, rfl⟩
  · rintro i x ρ μ1 hx ⟨Ls, kss, lens, most, r, hall, hbest, hold, d5, d6, d7, d8, rfl⟩
    obtain ⟨hin, rfl⟩ := rng_get hx
    (conv => whnf)
    intro pw hpw
    refine ⟨pw, R, md, n, i, keysS ways, fun s => pthD ((lookS ways s).getD []), by rw [← dctS_fd hw.nd] <;> rfl, mup_same, hok, hin, hn60, hw.nd, hw.un, by omega, fun s hs t ht => htg i hin s hs t ht, ?_⟩
    intro μ2 kk la L ks len kn nkw nlw nkl hkk0 hla0 hkn hL hf hpw2 hkk2 hla2 hold2
    refine ⟨rfl, _, hpw2, ?_⟩
    obtain ⟨Ls', hLs'⟩ : ∃ f : Nat → StM → List StM, f = fun b => if b = i then L else Ls b := ⟨_, rfl⟩
    obtain ⟨kss', hkss'⟩ : ∃ f : Nat → List StM, f = fun b => if b = i then ks else kss b := ⟨_, rfl⟩
    obtain ⟨lens', hlens'⟩ : ∃ f : Nat → StM → Nat, f = fun b => if b = i then len else lens b := ⟨_, rfl⟩
    have eLi : Ls' i = L := by rw [hLs']; exact if_pos rfl
    have eki : kss' i = ks := by rw [hkss']; exact if_pos rfl
    have eli : lens' i = len := by rw [hlens']; exact if_pos rfl
    have eL : ∀ b, b ≠ i → Ls' b = Ls b := fun b hb => by rw [hLs']; exact if_neg hb
    have ek : ∀ b, b ≠ i → kss' b = kss b := fun b hb => by rw [hkss']; exact if_neg hb
    have el : ∀ b, b ≠ i → lens' b = lens b := fun b hb => by rw [hlens']; exact if_neg hb
    have wi : WaitsM R n ways Ls' kss' lens' i := ⟨by rw [eLi]; exact hL, by rw [eLi, eki, eli]; exact hf⟩
    have wb : ∀ b, b < i → WaitsM R n ways Ls' kss' lens' b ∧ ∀ s ∈ keysS ways, s ∈ kss' b := fun b hb => by
      obtain ⟨y1, y2⟩ := hall b hb
      have ne : b ≠ i := by omega
      exact ⟨⟨by rw [eL b ne]; exact y1.lat, by rw [eL b ne, ek b ne, el b ne]; exact y1.fill⟩, by rw [ek b ne]; exact y2⟩
    have hbest0 : BestM R n ways lens' (fun b s => (b < i ∧ s ∈ keysS ways) ∨ (b = i ∧ s ∈ (keysS ways).take 0)) most r := hbest.to (fun a s => ⟨.inl, fun z => z.elim id fun y => nomatch y.2⟩) fun a s z => by rw [el a (by have := z.1; omega)]
    have hold3 : ∀ b o, μ b = some o → mdel μ2 pw b = some o := fun b o e => by
      have e1 := hold b o e
      have n1 : b ≠ pw := fun z => by rw [z, hpw] at e1; cases e1
      rw [mdel_ne n1]
      refine hold2 b o n1 ?_
      rw [mup_ne n1]; exact e1
    have hkk3 : mdel μ2 pw kk = some (.dct (knD R kn)) := by rw [mdel_ne nkw]; exact hkk2
    have hla3 : mdel μ2 pw la = some (.dct (fdct (fun s => dI (len s : Nat)) ks)) := by rw [mdel_ne nlw]; exact hla2
    have hkk00 : μ kk = none := by
      cases e : μ kk with
      | none => rfl
      | some o =>
        have := hold kk o e
        rw [mup_ne nkw] at hkk0
        rw [hkk0] at this; cases this
    clear hbest hold hpw2 hkk2 hla2 hold2 hall
    (conv => whnf)
    refine ⟨fun j ρ μ' => ∃ most r kn, BestM R n ways lens' (fun b s => (b < i ∧ s ∈ keysS ways) ∨ (b = i ∧ s ∈ (keysS ways).take j)) most r ∧ KnOk R kn ∧ μ' kk = some (.dct (knD R kn)) ∧ μ' la = some (.dct (fdct (fun s => dI (len s : Nat)) ks)) ∧ (∀ b o, μ b = some o → μ' b = some o) ∧ (∀ s ∈ (keysS ways).take j, s ∈ ks) ∧
      ∃ d7 d8, ρ = [some (ruleD K R md), some (dI (n : Int)), some (.dct (dctS pthD ways)), some (dI most), some (bestD r), some (dI (i : Nat)), some (waitO K R md n i kk la (keysS ways) L), d7, d8], ?_, ?_, ?_⟩
    · exact ⟨most, r, kn, hbest0, hkn, hkk3, hla3, hold3, (fun s hs => nomatch hs), _, _, rfl⟩
    · clear hbest0 hkn hkk3 hla3 hold3
      clear kn most r
      rintro j x ρ μ3 hx ⟨most, r, kn, hbest, hkn, hkk3, hla3, hold3, hks, d7, d8, rfl⟩
      obtain ⟨s, hs, rfl⟩ := dk_get hx
      have hsm := List.mem_of_getElem? hs
      have hmem : ∀ u, u ∈ (keysS ways).take (j + 1) ↔ u ∈ (keysS ways).take j ∨ u = s := fun u => by rw [take_get hs, List.mem_append, List.mem_singleton]
      (conv => whnf)
      refine ⟨rfl, rfl, ?_⟩
      (conv => whnf)
      refine ⟨_, _, la, s, ks, len, rfl, hla3, ?_⟩
      by_cases hsk : s ∈ ks
      · rw [if_pos hsk]
        have hks' : ∀ u ∈ (keysS ways).take (j + 1), u ∈ ks := fun u hu => by
          rcases (hmem u).mp hu with z | rfl
          · exact hks u z
          · exact hsk
        (conv => whnf)
        refine ⟨fun z => (ft_ z).elim, fun _ => ?_⟩
        (conv => whnf)
        refine ⟨fun hc => ?_, fun hc => ?_⟩
        · have hc : most < (len s : Nat) := of_decide_eq_true hc
          obtain ⟨p, hp⟩ := lookS_some hsm
          have e1 : lookD (dctS pthD ways) (stK s) = some (pthD p) := by rw [lookD_S, hp] <;> rfl
          (conv => whnf)
          refine ⟨stK s, (stK_D s).symm, ?_⟩
          (conv => whnf)
          (split; rotate_left; (rename_i e_; exact nomatch ((e1).symm.trans e_)); rename_i ts_ e_; cases ((e1).symm.trans e_))
          (conv => whnf)
          refine ⟨rfl, rfl, ?_⟩
          (conv => whnf)
          refine ⟨R, md, n, i, kk, la, keysS ways, ks, L, len, s, kn, rfl, nkl, hkk3, hkn, hla3, hok, hin, hn60, hw.un, by omega, hL, hf, hsk, fun As t kn' hq hal hkn' => ?_⟩
          (conv => whnf)
          refine ⟨(len s : Nat), some (i, p, As), kn', .inr ⟨i, s, p, As, t, .inr ⟨rfl, (hmem s).mpr (.inr rfl)⟩, lookS_mem hp, hq, by rw [eli]; exact hal, by rw [eli], rfl, fun b s' hd => ?_⟩, hkn', mup_same, (mup_ne nkl.symm).trans hla3, fun b o e => ?_, hks', _, _, rfl⟩
          · rw [eli]
            have old : ∀ b s', ((b < i ∧ s' ∈ keysS ways) ∨ (b = i ∧ s' ∈ (keysS ways).take j)) → lens' b s' ≤ len s := fun b s' hd => by
              rcases hbest with ⟨z, _, _⟩ | ⟨a, s1, p1, As1, t1, y1, y2, y3, y4, y5, y6, y7⟩
              · exact absurd hd (z b s')
              · have := y7 b s' hd
                omega
            rcases hd with z | ⟨rfl, z⟩
            · exact old b s' (.inl z)
            · rcases (hmem s').mp z with y | rfl
              · exact old b s' (.inr ⟨rfl, y⟩)
              · rw [eli]; exact Nat.le_refl _
          · have n1 : b ≠ kk := fun z => by rw [z, hkk00] at e; cases e
            rw [mup_ne n1]; exact hold3 b o e
        · have hc : ¬ most < (len s : Nat) := of_decide_eq_false hc
          refine ⟨most, r, kn, ?_, hkn, hkk3, hla3, hold3, hks', _, _, rfl⟩
          rcases hbest with ⟨_, z, _⟩ | ⟨a, s1, p1, As1, t1, y1, y2, y3, y4, y5, y6, y7⟩
          · omega
          · refine .inr ⟨a, s1, p1, As1, t1, y1.imp id (fun z => ⟨z.1, (hmem s1).mpr (.inl z.2)⟩), y2, y3, y4, y5, y6, fun b s' hd => ?_⟩
            rcases hd with z | ⟨rfl, z⟩
            · exact y7 b s' (.inl z)
            · rcases (hmem s').mp z with y | rfl
              · exact y7 b s' (.inr ⟨rfl, y⟩)
              · rw [eli]; omega
      · rw [if_neg hsk]
        (conv => whnf)
        refine ⟨fun _ => ?_, fun z => (tf_ z).elim⟩
        (conv => whnf)
        refine ⟨μ, hold3, h none ⟨ways, Ls', kss', lens', hw, hcl, i, hin, wi, s, hsm, by rw [eki]; exact hsk⟩⟩
    · clear hbest0 hkn hkk3 hla3 hold3
      clear kn most r
      rintro ρ μ3 ⟨most, r, kn, hbest, hkn, hkk3, hla3, hold3, hks, d7, d8, rfl⟩
      rw [dk_len, List.take_of_length_le (Nat.le_refl _)] at hbest hks
      refine ⟨Ls', kss', lens', most, r, fun b hb => ?_, hbest.to (fun a s => ?_) (fun a s _ => rfl), hold3, _, _, _, _, rfl⟩
      · by_cases e : b = i
        · subst e
          exact ⟨wi, by rw [eki]; exact hks⟩
        · exact wb b (by omega)
      · constructor
        · rintro (⟨z1, z2⟩ | ⟨rfl, z2⟩)
          · exact ⟨by omega, z2⟩
          · exact ⟨by omega, z2⟩
        · rintro ⟨z1, z2⟩
          by_cases e : a = i
          · exact .inr ⟨e, z2⟩
          · exact .inl ⟨by omega, z2⟩
  · rintro ρ μ1 ⟨Ls, kss, lens, most, r, hall, hbest, hold, d5, d6, d7, d8, rfl⟩
    rw [rngD_len] at hall hbest
    have e : ((n : Int)).toNat = n := by simp
    rw [e] at hall hbest
    (conv => whnf)
    refine ⟨μ, hold, h r ⟨ways, Ls, kss, lens, hw, hcl, ?_⟩⟩
    rcases hbest with ⟨z, _, _⟩ | ⟨a, s, p, As, t, z1, z2, z3, z4, z5, rfl, z6⟩
    · exact absurd ⟨hn0, hw.st⟩ (z 0 (R.first, none))
    · exact ⟨hall, z1.1, s, t, z2, z3, z4, fun b hb s' hs' => z6 b s' ⟨hb, hs'⟩⟩
theorem sc_waits : FnScope ["rule", "askers", "found"] ["rule", "askers"] (defScope (top 47)) := ⟨rfl, rfl, rfl, by decide +kernel, rfl, by decide +kernel, by decide +kernel⟩
theorem G_waits (T : TF w K mg) (F : FnP K "waits" "waits" (top 47) (He.ga K "waits")) (hm : mg "waits" = some (.ref (He.ga K "waits"))) (G_longest : FnG P w K mg base "longest" ["rule", "askers"] 9 ((S_longest K))) : FnG P w K mg base "waits" ["rule", "askers"] 10 ((S_waits K)) := by
  refine fnG_of F hm sc_waits (fun _ _ _ _ _ _ us hl => match us, hl with | [_, _], _ => rfl) ?_ ?_
  · (intro ds μ Φ h; first | (obtain ⟨_, rfl, _⟩ := h; rfl) | (obtain ⟨_, _, rfl, _⟩ := h; rfl) | (obtain ⟨_, _, _, rfl, _⟩ := h; rfl) | (obtain ⟨_, _, _, _, rfl, _⟩ := h; rfl) | (obtain ⟨_, _, _, _, _, rfl, _⟩ := h; rfl) | (obtain ⟨_, _, _, _, _, _, rfl, _⟩ := h; rfl) | (obtain ⟨_, _, _, _, _, _, _, rfl, _⟩ := h; rfl) | (obtain ⟨_, _, _, _, _, _, _, _, rfl, _⟩ := h; rfl) | (obtain ⟨_, _, _, _, _, _, _, _, _, rfl, _⟩ := h; rfl) | (obtain ⟨_, _, _, _, _, _, _, _, _, _, rfl, _⟩ := h; rfl) | (obtain ⟨_, _, _, _, _, _, _, _, _, _, _, rfl, _⟩ := h; rfl) | (obtain ⟨_, _, _, _, _, _, _, _, _, _, _, _, rfl, _⟩ := h; rfl))
  intro f cdv A outer s H E hr
  have nd := sc_waits.nd
  refine ⟨_, (ss_cons (s_set 2 nd (q_call G_longest (hr.mono (by decide)) rfl (a_cons (q_var 0) (a_cons (q_var 1) a_nil))))
      (ss_one (s_ret (q_if (t_isN (q_var 2)) q_non (q_cb call_len_seq sim_len rfl (T.free "len" (by simp)) (by decide +kernel) (a_cons (q_ix (q_var 2) q_int) a_nil)))))), ?_⟩
  clear hr nd F hm
  rintro _ μ Φ ⟨R, md, n, rfl, hok, hn0, hn60, htc, h⟩
  (conv => whnf)
  refine ⟨R, md, n, rfl, hok, hn0, hn60, htc, fun r hr => ?_⟩
  have h := h r hr
  cases r with
  | none =>
    ((repeat' ((conv => whnf) <;> first | refine And.intro rfl ?_ | (refine And.intro (fun hc => ?_) (fun hc => ?_) <;> first | (exact (tf_ hc).elim) | (exact (ft_ hc).elim) | skip) | refine @Exists.intro Mu _ _ (And.intro (fun _ _ e => e) ?_) | refine @Exists.intro (List V) _ _ (And.intro rfl ?_) | refine @Exists.intro PyData _ _ (And.intro rfl ?_))) <;> (try (conv => whnf)))
    exact h
  | some q =>
    obtain ⟨a, p, As⟩ := q
    have h : Φ (dI (As.length : Nat)) μ := h
    (conv => whnf)
    refine ⟨fun z => (ft_ z).elim, fun _ => ?_⟩
    (conv => whnf)
    refine ⟨μ, fun _ _ e => e, ?_⟩
    rw [List.length_map]
    exact h
end
end K3
set_option Elab.async false
set_option linter.all false
set_option maxRecDepth 100000
set_option maxHeartbeats 800000
set_option pp.maxSteps 600
/-! KM5: parts of the line and askers: a round by parts is a round. -/
namespace K3
open PySem PySem.Spec PyProof.Rows L2
/-! ### in which part an asker stands -/
def nm : Nat → Str
  | 0 => "under"
  | 1 => "point"
  | 2 => "between"
  | 3 => "w"
  | _ => "past"
theorem nm_inj {i j : Nat} (hi : i < 5) (hj : j < 5) (h : nm i = nm j) : i = j := by
  have : ∀ i : Fin 5, ∀ j : Fin 5, nm i.val = nm j.val → i = j := by decide
  have := this ⟨i, hi⟩ ⟨j, hj⟩ h
  exact Fin.mk.inj this
def ptN (a : Nat) (p : Option Nat) (x : Nat) : Nat := match p with
  | none => if x < a then 0 else if x = a then 3 else 4
  | some i => if i = a then (if x < a then 0 else if x = a then 3 else 4)
    else if i < a then (if x < i then 0 else if x = i then 1 else if x < a then 2 else if x = a then 3 else 4)
    else (if x < a then 0 else if x = a then 3 else if x < i then 2 else if x = i then 1 else 4)
def ptM (a : Nat) (p : Option Nat) (x : Nat) : Str := nm (ptN a p x)
theorem ptN_lt (a : Nat) (p : Option Nat) (x : Nat) : ptN a p x < 5 := by
  unfold ptN
  repeat' split
  all_goals omega
theorem pt_eq {a x k : Nat} {p : Option Nat} (hk : k < 5) : ptM a p x = nm k ↔ ptN a p x = k := ⟨fun h => nm_inj (ptN_lt a p x) hk h, fun h => by unfold ptM; rw [h]⟩
theorem side4 (a : Nat) (p : Option Nat) : (p = none ∧ sideM a p = "home") ∨ (p = some a ∧ sideM a p = "here") ∨ (∃ i, i < a ∧ p = some i ∧ sideM a p = "low") ∨ (∃ i, a < i ∧ p = some i ∧ sideM a p = "high") := by
  cases p with
  | none => exact .inl ⟨rfl, rfl⟩
  | some i =>
    by_cases h : i = a
    · subst h
      exact .inr (.inl ⟨rfl, by unfold sideM; simp⟩)
    · by_cases h2 : i < a
      · exact .inr (.inr (.inl ⟨i, h2, rfl, by unfold sideM; simp [h, h2]⟩))
      · exact .inr (.inr (.inr ⟨i, by omega, rfl, by unfold sideM; simp [h, h2]⟩))
theorem ptN_home {a x : Nat} : ptN a none x = if x < a then 0 else if x = a then 3 else 4 := rfl
theorem ptN_here {a x : Nat} : ptN a (some a) x = if x < a then 0 else if x = a then 3 else 4 := by unfold ptN; simp
theorem ptN_low {a i x : Nat} (h : i < a) : ptN a (some i) x = if x < i then 0 else if x = i then 1 else if x < a then 2 else if x = a then 3 else 4 := by
  have h1 : ¬ i = a := by omega
  unfold ptN; simp only [h1, h, if_true, if_false]
theorem ptN_high {a i x : Nat} (h : a < i) : ptN a (some i) x = if x < a then 0 else if x = a then 3 else if x < i then 2 else if x = i then 1 else 4 := by
  have h1 : ¬ i = a := by omega
  have h2 : ¬ i < a := by omega
  unfold ptN; simp only [h1, h2, if_false]
def lineN (side : Str) : List Nat := if side = "low" then [0, 1, 2, 3, 4] else if side = "high" then [0, 3, 2, 1, 4] else [0, 3, 4]
theorem line_nm {side : Str} (h : side ∈ sidesL) : lineOf side = (lineN side).map nm := by
  rcases side_cases h with rfl | rfl | rfl | rfl <;> decide
theorem lineN_lt {side : Str} : ∀ k ∈ lineN side, k < 5 := by
  unfold lineN
  split
  · decide
  · split <;> decide
theorem pt_line (a : Nat) (p : Option Nat) (x : Nat) : ptM a p x ∈ lineOf (sideM a p) := by
  rw [line_nm (sideM_mem a p)]
  refine List.mem_map.mpr ⟨ptN a p x, ?_, rfl⟩
  rcases side4 a p with ⟨rfl, e⟩ | ⟨rfl, e⟩ | ⟨i, hi, rfl, e⟩ | ⟨i, hi, rfl, e⟩
  · rw [e, ptN_home, show lineN "home" = [0, 3, 4] from by decide]; repeat' split
    all_goals simp
  · rw [e, ptN_here, show lineN "here" = [0, 3, 4] from by decide]; repeat' split
    all_goals simp
  · rw [e, ptN_low hi, show lineN "low" = [0, 1, 2, 3, 4] from by decide]; repeat' split
    all_goals simp
  · rw [e, ptN_high hi, show lineN "high" = [0, 3, 2, 1, 4] from by decide]; repeat' split
    all_goals simp
theorem pt_w {a x : Nat} {p : Option Nat} : ptM a p x = "w" ↔ x = a := by
  rw [show ("w" : Str) = nm 3 from rfl, pt_eq (by decide)]
  rcases side4 a p with ⟨rfl, e⟩ | ⟨rfl, e⟩ | ⟨i, hi, rfl, e⟩ | ⟨i, hi, rfl, e⟩
  · rw [ptN_home]; repeat' split
    all_goals omega
  · rw [ptN_here]; repeat' split
    all_goals omega
  · rw [ptN_low hi]; repeat' split
    all_goals omega
  · rw [ptN_high hi]; repeat' split
    all_goals omega
/-- which part, by the interval -/
theorem pt_iv {a n x : Nat} {p : Option Nat} {q : Str} {e : Nat × Nat} (hx : x < n) (h : ivM a n p q = some e) : ptM a p x = q ↔ e.1 ≤ x ∧ x < e.2 := by
  unfold ivM at h
  obtain ⟨y, hy, rfl⟩ := Option.map_eq_some_iff.mp h
  have hq0 := List.find?_some hy
  have hq : y.1 = q := of_decide_eq_true hq0
  have hm := List.mem_of_find?_eq_some hy
  subst hq
  rcases side4 a p with ⟨rfl, e⟩ | ⟨rfl, e⟩ | ⟨i, hi, rfl, e⟩ | ⟨i, hi, rfl, e⟩
  · have hm : y ∈ [((nm 0 : Str), 0, a), (nm 4, a + 1, n)] := hm
    simp only [List.mem_cons, List.not_mem_nil, or_false] at hm
    rcases hm with rfl | rfl
    · rw [pt_eq (by decide), ptN_home]
      show (if x < a then 0 else if x = a then 3 else 4) = 0 ↔ 0 ≤ x ∧ x < a
      repeat' split
      all_goals omega
    · rw [pt_eq (by decide), ptN_home]
      show (if x < a then 0 else if x = a then 3 else 4) = 4 ↔ a + 1 ≤ x ∧ x < n
      repeat' split
      all_goals omega
  · have hm : y ∈ [((nm 0 : Str), 0, a), (nm 4, a + 1, n)] := by
      unfold plL at hm
      simp only [if_true] at hm
      exact hm
    simp only [List.mem_cons, List.not_mem_nil, or_false] at hm
    rcases hm with rfl | rfl
    · rw [pt_eq (by decide), ptN_here]
      show (if x < a then 0 else if x = a then 3 else 4) = 0 ↔ 0 ≤ x ∧ x < a
      repeat' split
      all_goals omega
    · rw [pt_eq (by decide), ptN_here]
      show (if x < a then 0 else if x = a then 3 else 4) = 4 ↔ a + 1 ≤ x ∧ x < n
      repeat' split
      all_goals omega
  · have h1 : ¬ i = a := by omega
    have hm : y ∈ [((nm 0 : Str), 0, i), (nm 4, a + 1, n), (nm 1, i, i + 1), (nm 2, i + 1, a)] := by
      unfold plL at hm
      simp only [h1, hi, if_true, if_false] at hm
      exact hm
    simp only [List.mem_cons, List.not_mem_nil, or_false] at hm
    rcases hm with rfl | rfl | rfl | rfl
    · rw [pt_eq (by decide), ptN_low hi]
      show (if x < i then 0 else if x = i then 1 else if x < a then 2 else if x = a then 3 else 4) = 0 ↔ 0 ≤ x ∧ x < i
      repeat' split
      all_goals omega
    · rw [pt_eq (by decide), ptN_low hi]
      show (if x < i then 0 else if x = i then 1 else if x < a then 2 else if x = a then 3 else 4) = 4 ↔ a + 1 ≤ x ∧ x < n
      repeat' split
      all_goals omega
    · rw [pt_eq (by decide), ptN_low hi]
      show (if x < i then 0 else if x = i then 1 else if x < a then 2 else if x = a then 3 else 4) = 1 ↔ i ≤ x ∧ x < i + 1
      repeat' split
      all_goals omega
    · rw [pt_eq (by decide), ptN_low hi]
      show (if x < i then 0 else if x = i then 1 else if x < a then 2 else if x = a then 3 else 4) = 2 ↔ i + 1 ≤ x ∧ x < a
      repeat' split
      all_goals omega
  · have h1 : ¬ i = a := by omega
    have h2 : ¬ i < a := by omega
    have hm : y ∈ [((nm 0 : Str), 0, a), (nm 4, i + 1, n), (nm 2, a + 1, i), (nm 1, i, i + 1)] := by
      unfold plL at hm
      simp only [h1, h2, if_false] at hm
      exact hm
    simp only [List.mem_cons, List.not_mem_nil, or_false] at hm
    rcases hm with rfl | rfl | rfl | rfl
    · rw [pt_eq (by decide), ptN_high hi]
      show (if x < a then 0 else if x = a then 3 else if x < i then 2 else if x = i then 1 else 4) = 0 ↔ 0 ≤ x ∧ x < a
      repeat' split
      all_goals omega
    · rw [pt_eq (by decide), ptN_high hi]
      show (if x < a then 0 else if x = a then 3 else if x < i then 2 else if x = i then 1 else 4) = 4 ↔ i + 1 ≤ x ∧ x < n
      repeat' split
      all_goals omega
    · rw [pt_eq (by decide), ptN_high hi]
      show (if x < a then 0 else if x = a then 3 else if x < i then 2 else if x = i then 1 else 4) = 2 ↔ a + 1 ≤ x ∧ x < i
      repeat' split
      all_goals omega
    · rw [pt_eq (by decide), ptN_high hi]
      show (if x < a then 0 else if x = a then 3 else if x < i then 2 else if x = i then 1 else 4) = 1 ↔ i ≤ x ∧ x < i + 1
      repeat' split
      all_goals omega
theorem line_pair (a : Nat) (p : Option Nat) : (lineOf (sideM a p)).Pairwise fun q1 q2 => ∀ x y, ptM a p x = q1 → ptM a p y = q2 → x < y := by
  rw [line_nm (sideM_mem a p), List.pairwise_map]
  have key : (lineN (sideM a p)).Pairwise fun i j => ∀ x y, ptN a p x = i → ptN a p y = j → x < y := by
    rcases side4 a p with ⟨rfl, e⟩ | ⟨rfl, e⟩ | ⟨i, hi, rfl, e⟩ | ⟨i, hi, rfl, e⟩
    · rw [e, show lineN "home" = [0, 3, 4] from by decide]
      simp only [List.pairwise_cons, List.mem_cons, List.not_mem_nil, or_false, forall_eq_or_imp, forall_eq, ptN_home, List.Pairwise.nil, and_true, false_imp_iff, implies_true]
      refine ⟨⟨?_, ?_⟩, ?_⟩
      all_goals (intro x y hx hy; repeat' split at hx)
      all_goals (first | omega | (repeat' split at hy))
      all_goals omega
    · rw [e, show lineN "here" = [0, 3, 4] from by decide]
      simp only [List.pairwise_cons, List.mem_cons, List.not_mem_nil, or_false, forall_eq_or_imp, forall_eq, ptN_here, List.Pairwise.nil, and_true, false_imp_iff, implies_true]
      refine ⟨⟨?_, ?_⟩, ?_⟩
      all_goals (intro x y hx hy; repeat' split at hx)
      all_goals (first | omega | (repeat' split at hy))
      all_goals omega
    · rw [e, show lineN "low" = [0, 1, 2, 3, 4] from by decide]
      simp only [List.pairwise_cons, List.mem_cons, List.not_mem_nil, or_false, forall_eq_or_imp, forall_eq, ptN_low hi, List.Pairwise.nil, and_true, false_imp_iff, implies_true]
      refine ⟨⟨?_, ?_, ?_, ?_⟩, ⟨?_, ?_, ?_⟩, ⟨?_, ?_⟩, ?_⟩
      all_goals (intro x y hx hy; repeat' split at hx)
      all_goals (first | omega | (repeat' split at hy))
      all_goals omega
    · rw [e, show lineN "high" = [0, 3, 2, 1, 4] from by decide]
      simp only [List.pairwise_cons, List.mem_cons, List.not_mem_nil, or_false, forall_eq_or_imp, forall_eq, ptN_high hi, List.Pairwise.nil, and_true, false_imp_iff, implies_true]
      refine ⟨⟨?_, ?_, ?_, ?_⟩, ⟨?_, ?_, ?_⟩, ⟨?_, ?_⟩, ?_⟩
      all_goals (intro x y hx hy; repeat' split at hx)
      all_goals (first | omega | (repeat' split at hy))
      all_goals omega
  refine List.Pairwise.imp_of_mem ?_ key
  intro i j hi hj h x y hx hy
  exact h x y ((pt_eq (lineN_lt i hi)).mp hx) ((pt_eq (lineN_lt j hj)).mp hy)
theorem rp_sub (pick side : Str) : (rpM pick side).Sublist (lineOf side) := by
  unfold rpM
  split
  · split
    · exact List.Sublist.refl _
    · exact List.nil_sublist _
  · split
    · exact List.take_sublist _ _
    · split
      · exact (List.take_sublist _ _).trans (List.drop_sublist _ _)
      · split
        · exact List.drop_sublist _ _
        · exact List.drop_sublist _ _
/-- a region's askers are those of its parts -/
theorem pt_reg {a n x : Nat} {p : Option Nat} {r : RowM} (hr : r.pick ∈ picksL) (ha : a < n) (hx : x < n) : inReg r p n x = true ↔ ptM a p x ∈ rpM r.pick (sideM a p) := by
  obtain ⟨mode, pick, move, thn, also⟩ := r
  unfold inReg
  rw [decide_eq_true_eq]
  show (regM pick p n).1 ≤ x ∧ x < (regM pick p n).2 ↔ _ ∈ rpM pick _
  have mm : ∀ (ks : List Nat) , (∀ k ∈ ks, k < 5) → (ptM a p x ∈ ks.map nm ↔ ptN a p x ∈ ks) := fun ks hk => by
    constructor
    · intro h
      obtain ⟨k, h1, h2⟩ := List.mem_map.mp h
      rw [← nm_inj (hk k h1) (ptN_lt a p x) h2]; exact h1
    · intro h
      exact List.mem_map.mpr ⟨_, h, rfl⟩
  have hr : pick ∈ picksL := hr
  rcases side4 a p with ⟨rfl, e⟩ | ⟨rfl, e⟩ | ⟨i, hi, rfl, e⟩ | ⟨i, hi, rfl, e⟩
  · rw [e]
    rcases pick_cases hr with rfl | rfl | rfl | rfl | rfl
    · rw [show rpM "keep" "home" = ([] : List Nat).map nm from by decide, mm _ (by decide), ptN_home, show regM "keep" none n = (0, 0) from rfl]; simp
    · rw [show rpM "at" "home" = ([0, 3, 4] : List Nat).map nm from by decide, mm _ (by decide), ptN_home, show regM "at" none n = (0, n) from rfl]; repeat' split
      all_goals simp
      all_goals omega
    · rw [show rpM "past" "home" = ([0, 3, 4] : List Nat).map nm from by decide, mm _ (by decide), ptN_home, show regM "past" none n = (0, n) from rfl]; repeat' split
      all_goals simp
      all_goals omega
    · rw [show rpM "under" "home" = ([] : List Nat).map nm from by decide, mm _ (by decide), ptN_home, show regM "under" none n = (0, 0) from rfl]; simp
    · rw [show rpM "all" "home" = ([0, 3, 4] : List Nat).map nm from by decide, mm _ (by decide), ptN_home, show regM "all" none n = (0, n) from rfl]; repeat' split
      all_goals simp
      all_goals omega
  · rw [e]
    rcases pick_cases hr with rfl | rfl | rfl | rfl | rfl
    · rw [show rpM "keep" "here" = ([3] : List Nat).map nm from by decide, mm _ (by decide), ptN_here, show regM "keep" (some a) n = (a, a + 1) from rfl]; repeat' split
      all_goals simp
      all_goals omega
    · rw [show rpM "at" "here" = ([3, 4] : List Nat).map nm from by decide, mm _ (by decide), ptN_here, show regM "at" (some a) n = (a, n) from rfl]; repeat' split
      all_goals simp
      all_goals omega
    · rw [show rpM "past" "here" = ([4] : List Nat).map nm from by decide, mm _ (by decide), ptN_here, show regM "past" (some a) n = (a + 1, n) from rfl]; repeat' split
      all_goals simp
      all_goals omega
    · rw [show rpM "under" "here" = ([0] : List Nat).map nm from by decide, mm _ (by decide), ptN_here, show regM "under" (some a) n = (0, a) from rfl]; repeat' split
      all_goals simp
      all_goals omega
    · rw [show rpM "all" "here" = ([0, 3, 4] : List Nat).map nm from by decide, mm _ (by decide), ptN_here, show regM "all" (some a) n = (0, n) from rfl]; repeat' split
      all_goals simp
      all_goals omega
  · rw [e]
    rcases pick_cases hr with rfl | rfl | rfl | rfl | rfl
    · rw [show rpM "keep" "low" = ([1] : List Nat).map nm from by decide, mm _ (by decide), ptN_low hi, show regM "keep" (some i) n = (i, i + 1) from rfl]; repeat' split
      all_goals simp
      all_goals omega
    · rw [show rpM "at" "low" = ([1, 2, 3, 4] : List Nat).map nm from by decide, mm _ (by decide), ptN_low hi, show regM "at" (some i) n = (i, n) from rfl]; repeat' split
      all_goals simp
      all_goals omega
    · rw [show rpM "past" "low" = ([2, 3, 4] : List Nat).map nm from by decide, mm _ (by decide), ptN_low hi, show regM "past" (some i) n = (i + 1, n) from rfl]; repeat' split
      all_goals simp
      all_goals omega
    · rw [show rpM "under" "low" = ([0] : List Nat).map nm from by decide, mm _ (by decide), ptN_low hi, show regM "under" (some i) n = (0, i) from rfl]; repeat' split
      all_goals simp
      all_goals omega
    · rw [show rpM "all" "low" = ([0, 1, 2, 3, 4] : List Nat).map nm from by decide, mm _ (by decide), ptN_low hi, show regM "all" (some i) n = (0, n) from rfl]; repeat' split
      all_goals simp
      all_goals omega
  · rw [e]
    rcases pick_cases hr with rfl | rfl | rfl | rfl | rfl
    · rw [show rpM "keep" "high" = ([1] : List Nat).map nm from by decide, mm _ (by decide), ptN_high hi, show regM "keep" (some i) n = (i, i + 1) from rfl]; repeat' split
      all_goals simp
      all_goals omega
    · rw [show rpM "at" "high" = ([1, 4] : List Nat).map nm from by decide, mm _ (by decide), ptN_high hi, show regM "at" (some i) n = (i, n) from rfl]; repeat' split
      all_goals simp
      all_goals omega
    · rw [show rpM "past" "high" = ([4] : List Nat).map nm from by decide, mm _ (by decide), ptN_high hi, show regM "past" (some i) n = (i + 1, n) from rfl]; repeat' split
      all_goals simp
      all_goals omega
    · rw [show rpM "under" "high" = ([0, 3, 2] : List Nat).map nm from by decide, mm _ (by decide), ptN_high hi, show regM "under" (some i) n = (0, i) from rfl]; repeat' split
      all_goals simp
      all_goals omega
    · rw [show rpM "all" "high" = ([0, 3, 2, 1, 4] : List Nat).map nm from by decide, mm _ (by decide), ptN_high hi, show regM "all" (some i) n = (0, n) from rfl]; repeat' split
      all_goals simp
      all_goals omega
/-- the parts that ask are those of the askers -/
def SetOf (a : Nat) (p : Option Nat) (A : List Nat) (Q : List Str) : Prop := ∀ q, q ∈ lineOf (sideM a p) → (q ∈ Q ↔ ∃ x ∈ A, ptM a p x = q)
theorem fp_gr {a n : Nat} {p : Option Nat} {r : RowM} {A : List Nat} {Q : List Str} (hr : r.pick ∈ picksL) (ha : a < n) (hA : A.Pairwise (· < ·)) (hn : ∀ x ∈ A, x < n) (hQ : SetOf a p A Q) : fpM r.pick (sideM a p) Q = (grM r p n A).map (ptM a p) := by
  have sub := rp_sub r.pick (sideM a p)
  unfold fpM grM
  cases e : A.find? (inReg r p n) with
  | none =>
    show _ = none
    rw [List.find?_eq_none]
    intro q hq hqQ
    obtain ⟨x, hx, hxq⟩ := (hQ q (sub.subset hq)).mp (of_decide_eq_true hqQ)
    exact List.find?_eq_none.mp e x hx ((pt_reg hr ha (hn x hx)).mpr (by rw [hxq]; exact hq))
  | some g =>
    show _ = some (ptM a p g)
    obtain ⟨hg, as, bs, hAs, hno⟩ := List.find?_eq_some_iff_append.mp e
    have hgA : g ∈ A := List.mem_of_find?_eq_some e
    have hrg := (pt_reg (p := p) hr ha (hn g hgA)).mp hg
    have hgQ : ptM a p g ∈ Q := (hQ _ (pt_line a p g)).mpr ⟨g, hgA, rfl⟩
    cases e2 : (rpM r.pick (sideM a p)).find? fun q => decide (q ∈ Q) with
    | none => exact absurd (decide_eq_true hgQ) (List.find?_eq_none.mp e2 _ hrg)
    | some q =>
      by_cases h : q = ptM a p g
      · rw [h]
      · exfalso
        obtain ⟨hq, us, vs, hUs, hno2⟩ := List.find?_eq_some_iff_append.mp e2
        have hqm : q ∈ rpM r.pick (sideM a p) := List.mem_of_find?_eq_some e2
        obtain ⟨x, hx, hxq⟩ := (hQ q (sub.subset hqm)).mp (of_decide_eq_true hq)
        have hxr : inReg r p n x = true := (pt_reg hr ha (hn x hx)).mpr (by rw [hxq]; exact hqm)
        have pw : (rpM r.pick (sideM a p)).Pairwise fun q1 q2 => ∀ x y, ptM a p x = q1 → ptM a p y = q2 → x < y := (line_pair a p).sublist sub
        rw [hUs] at pw hrg
        rw [hAs] at hA hx
        have lt : x < g := by
          rcases List.mem_append.mp hrg with z | z
          · have := hno2 _ z
            rw [decide_eq_true hgQ] at this
            cases this
          · rcases List.mem_cons.mp z with z | z
            · exact absurd z.symm h
            · exact (List.pairwise_cons.mp (List.pairwise_append.mp pw).2.1).1 _ z x g hxq rfl
        rcases List.mem_append.mp hx with z | z
        · have := hno _ z
          rw [hxr] at this
          cases this
        · rcases List.mem_cons.mp z with z | z
          · omega
          · have := (List.pairwise_cons.mp (List.pairwise_append.mp hA).2.1).1 _ z
            omega
/-! ### a round, and a round by parts -/
structure PR (rows : List RowM) (a n : Nat) (s : StM) (c : Acc) (d : PAcc) : Prop where
  dn : d.done = c.done
  mem : ∀ q, q ∈ d.found ↔ ∃ g ∈ c.grs, ptM a s.2 g = q
  hd : d.found[0]? = c.grs[0]?.map (ptM a s.2)
  no : c.done = none → c.grs = [] ∧ c.beh = s
  sm : ∀ i, c.done = some i → ∃ r g, rows[i]? = some r ∧ c.grs[0]? = some g ∧ c.beh = (r.thn, behM r s.2 g)
theorem add_mem {q : Str} {found : List Str} {x : Str} : x ∈ (if q ∈ found then found else found ++ [q]) ↔ x ∈ found ∨ x = q := by
  split
  · rename_i h
    constructor
    · exact .inl
    · rintro (z | rfl)
      · exact z
      · exact h
  · simp
theorem PR.step {rows : List RowM} {a n i : Nat} {s : StM} {c : Acc} {d : PAcc} {r : RowM} {A : List Nat} {Q : List Str} (h : PR rows a n s c d) (hi : rows[i]? = some r) (hr : r.pick ∈ picksL) (ha : a < n) (hA : A.Pairwise (· < ·)) (hn : ∀ x ∈ A, x < n) (hQ : SetOf a s.2 A Q) :
    PR rows a n s (accM s n A i r c) (paccM s.1 (sideM a s.2) Q i r d) := by
  have fg := fp_gr (p := s.2) hr ha hA hn hQ
  unfold accM paccM
  rw [fg]
  unfold hitM
  by_cases hm : r.mode = s.1
  · rw [if_pos hm]
    cases hg : grM r s.2 n A with
    | none =>
      simp only [Option.map_none, ite_self]
      exact h
    | some g =>
      simp only [Option.map_some]
      cases hd : c.done with
      | none =>
        have hd2 : d.done = none := h.dn.trans hd
        obtain ⟨e1, e2⟩ := h.no hd
        have ef : d.found = [] := by
          cases e : d.found with
          | nil => rfl
          | cons x xs =>
            have := (h.mem x).mp (by rw [e]; exact List.mem_cons_self)
            obtain ⟨g, hg, _⟩ := this
            rw [e1] at hg; cases hg
        rw [if_neg (by rw [hd2]; simp [hm])]
        simp only [hd2, ef, e1, List.nil_append, List.not_mem_nil, if_false, if_true]
        exact ⟨rfl, fun q => by simp [eq_comm], rfl, (fun z => nomatch z), fun j z => by cases z; exact ⟨r, g, hi, rfl, rfl⟩⟩
      | some j =>
        have hd2 : d.done = some j := h.dn.trans hd
        obtain ⟨r0, g0, k1, k2, k3⟩ := h.sm j hd
        cases hal : r.also with
        | false =>
          rw [if_pos (by right; exact ⟨by rw [hd2]; simp, rfl⟩)]
          simp only [Bool.false_eq_true, if_false]
          exact h
        | true =>
          rw [if_neg (by simp [hm])]
          simp only [if_true, hd2]
          have hne : (if (some j : Option Nat) = none then some i else some j) = some j := by simp
          rw [hne]
          refine ⟨rfl, fun q => ?_, ?_, (fun z => nomatch z), fun j' z => ?_⟩
          · show q ∈ (if ptM a s.2 g ∈ d.found then d.found else d.found ++ [ptM a s.2 g]) ↔ _
            rw [add_mem, h.mem q]
            constructor
            · rintro (⟨g', m1, m2⟩ | rfl)
              · exact ⟨g', List.mem_append_left _ m1, m2⟩
              · exact ⟨g, by simp, rfl⟩
            · rintro ⟨g', m1, m2⟩
              rcases List.mem_append.mp m1 with z | z
              · exact .inl ⟨g', z, m2⟩
              · have : g' = g := by simpa using z
                subst this; exact .inr m2.symm
          · show (if ptM a s.2 g ∈ d.found then d.found else d.found ++ [ptM a s.2 g])[0]? = _
            have hl := h.hd
            rw [k2] at hl
            have l1 : 0 < d.found.length := (List.getElem?_eq_some_iff.mp hl).1
            have l2 : 0 < c.grs.length := (List.getElem?_eq_some_iff.mp k2).1
            rw [List.getElem?_append_left l2, k2]
            split
            · exact hl
            · rw [List.getElem?_append_left l1]; exact hl
          · cases z
            have l2 : 0 < c.grs.length := (List.getElem?_eq_some_iff.mp k2).1
            exact ⟨r0, g0, k1, by show (c.grs ++ [g])[0]? = _; rw [List.getElem?_append_left l2]; exact k2, k3⟩
  · rw [if_neg hm, if_pos (.inl hm)]
    exact h
theorem pr_fold {all : List RowM} {a n : Nat} {s : StM} {A : List Nat} {Q : List Str} (hr : ∀ r ∈ all, r.pick ∈ picksL) (ha : a < n) (hA : A.Pairwise (· < ·)) (hn : ∀ x ∈ A, x < n) (hQ : SetOf a s.2 A Q) :
    ∀ (rows : List RowM) (i : Nat) (c : Acc) (d : PAcc), all.drop i = rows → PR all a n s c d → PR all a n s (rdM s n A rows i c) (pgF s.1 (sideM a s.2) Q rows i d)
  | [], _, _, _, _, h => h
  | r :: rows, i, c, d, e, h => by
    have hi : all[i]? = some r := by
      have : (all.drop i)[0]? = some r := by rw [e] <;> rfl
      rwa [List.getElem?_drop, Nat.add_zero] at this
    refine pr_fold hr ha hA hn hQ rows (i + 1) _ _ ?_ (h.step hi (hr r (List.mem_of_getElem? hi)) ha hA hn hQ)
    rw [drop_get hi] at e; exact (List.cons.inj e).2
theorem pg_round {rows : List RowM} {a n : Nat} {s : StM} {A : List Nat} {Q : List Str} (hr : ∀ r ∈ rows, r.pick ∈ picksL) (ha : a < n) (hA : A.Pairwise (· < ·)) (hn : ∀ x ∈ A, x < n) (hQ : SetOf a s.2 A Q) :
    PR rows a n s (roundM rows s n A) (pgM rows s.1 (sideM a s.2) Q) :=
  pr_fold hr ha hA hn hQ rows 0 _ _ rfl ⟨rfl, fun q => by simp, rfl, fun _ => ⟨rfl, rfl⟩, fun i z => nomatch z⟩
theorem grs_mem {rows : List RowM} {s : StM} {n : Nat} {A : List Nat} : ∀ g ∈ (roundM rows s n A).grs, g ∈ A := by
  rcases first_hit s n A rows with h1 | ⟨pre, r, post, g, e, h1, h2⟩
  · rw [round_none h1]; intro g hg; cases hg
  · rw [e, round_some h1 h2]
    intro x hx
    rcases List.mem_cons.mp hx with rfl | hx
    · exact hit_mem h2
    · unfold alsoM at hx
      obtain ⟨r', _, h4⟩ := List.mem_filterMap.mp hx
      split at h4
      · exact hit_mem h4
      · cases h4
end K3
set_option Elab.async false
set_option linter.all false
set_option maxRecDepth 100000
set_option maxHeartbeats 800000
set_option pp.maxSteps 600
/-! KM6: steps in vain: by parts, by rounds. -/
namespace K3
open PySem PySem.Spec PyProof.Rows L2
/-- a round in vain of an asker leads from a state to another -/
def VS (R : RuleM) (n a : Nat) (s t : StM) : Prop := ∃ A : List Nat, A.Pairwise (· < ·) ∧ (∀ x ∈ A, x < n) ∧ a ∈ A ∧ a ∉ (roundM R.rows s n A).grs ∧ t = (roundM R.rows s n A).beh
theorem subs_filter (f : Str → Bool) : ∀ (ts : List Str) (acc : List (List Str)) (x : List Str), x ∈ acc → x ++ ts.filter f ∈ ts.foldl (fun acc t => acc ++ acc.map fun q => q ++ [t]) acc
  | [], acc, x, h => by simpa using h
  | t :: ts, acc, x, h => by
    rw [List.foldl_cons, List.filter_cons]
    split
    · have := subs_filter f ts (acc ++ acc.map fun q => q ++ [t]) (x ++ [t]) (List.mem_append_right _ (List.mem_map.mpr ⟨x, h, rfl⟩))
      rwa [List.append_assoc] at this
    · exact subs_filter f ts _ x (List.mem_append_left _ h)
theorem home_iff {a : Nat} {p : Option Nat} : sideM a p = "home" ↔ p = none := by
  rcases side4 a p with ⟨rfl, e⟩ | ⟨rfl, e⟩ | ⟨i, hi, rfl, e⟩ | ⟨i, hi, rfl, e⟩
  · exact ⟨fun _ => rfl, fun _ => e⟩
  · exact ⟨fun h => absurd (e.symm.trans h) (by decide), fun h => nomatch h⟩
  · exact ⟨fun h => absurd (e.symm.trans h) (by decide), fun h => nomatch h⟩
  · exact ⟨fun h => absurd (e.symm.trans h) (by decide), fun h => nomatch h⟩
theorem pt_point {a g : Nat} {p : Option Nat} (h : ptM a p g = "point") : p = some g := by
  have h : ptN a p g = 1 := (pt_eq (k := 1) (by decide)).mp h
  rcases side4 a p with ⟨rfl, e⟩ | ⟨rfl, e⟩ | ⟨i, hi, rfl, e⟩ | ⟨i, hi, rfl, e⟩
  · rw [ptN_home] at h
    repeat' split at h
    all_goals omega
  · rw [ptN_here] at h
    repeat' split at h
    all_goals omega
  · rw [ptN_low hi] at h
    repeat' split at h
    all_goals first | omega | (congr 1; omega)
  · rw [ptN_high hi] at h
    repeat' split at h
    all_goals first | omega | (congr 1; omega)
/-- the step that is told, and the pointer -/
theorem sl_beh {a g : Nat} {p : Option Nat} {r : RowM} (hm : r.move ∈ movesL) :
    (((slM (sideM a p) r.move (ptM a p g)).1 = "still" ∨ (slM (sideM a p) r.move (ptM a p g)).2 = "home") → behM r p g = if (slM (sideM a p) r.move (ptM a p g)).2 = "home" then none else p) ∧
    (¬ ((slM (sideM a p) r.move (ptM a p g)).1 = "still" ∨ (slM (sideM a p) r.move (ptM a p g)).2 = "home") → behM r p g = some g) := by
  obtain ⟨mode, pick, move, thn, also⟩ := r
  have hm : move = "stay" ∨ move = "on" ∨ move = "home" := by simpa [movesL] using hm
  show (((slM (sideM a p) move (ptM a p g)).1 = "still" ∨ (slM (sideM a p) move (ptM a p g)).2 = "home") → behM ⟨mode, pick, move, thn, also⟩ p g = if (slM (sideM a p) move (ptM a p g)).2 = "home" then none else p) ∧
    (¬ ((slM (sideM a p) move (ptM a p g)).1 = "still" ∨ (slM (sideM a p) move (ptM a p g)).2 = "home") → behM ⟨mode, pick, move, thn, also⟩ p g = some g)
  rcases hm with rfl | rfl | rfl
  · have e1 : slM (sideM a p) "stay" (ptM a p g) = (("still" : Str), sideM a p) := rfl
    have e2 : behM ⟨mode, pick, "stay", thn, also⟩ p g = p := rfl
    rw [e1, e2]
    refine ⟨fun _ => ?_, fun h => absurd (.inl rfl) h⟩
    show p = if sideM a p = "home" then none else p
    split
    · rename_i h; exact home_iff.mp h
    · rfl
  · have e1 : slM (sideM a p) "on" (ptM a p g) = if ptM a p g = "point" then (("still" : Str), sideM a p) else if sideM a p = "low" then (if ptM a p g = "under" then ("down" : Str) else "up", ("low" : Str)) else if sideM a p = "high" ∧ ptM a p g = "past" then (("up" : Str), ("high" : Str)) else (("jump" : Str), if ptM a p g = "under" then "low" else "high") := rfl
    have e2 : behM ⟨mode, pick, "on", thn, also⟩ p g = some g := rfl
    rw [e1, e2]
    refine ⟨fun h => ?_, fun _ => rfl⟩
    by_cases hp : ptM a p g = "point"
    · rw [if_pos hp]
      have e := pt_point hp
      have hh : ¬ sideM a p = "home" := fun z => by rw [home_iff.mp z] at e; cases e
      show some g = if sideM a p = "home" then none else p
      rw [if_neg hh, e]
    · exfalso
      rw [if_neg hp] at h
      have n1 : ("down" : Str) ≠ "still" := by decide
      have n2 : ("up" : Str) ≠ "still" := by decide
      have n3 : ("jump" : Str) ≠ "still" := by decide
      have n4 : ("low" : Str) ≠ "home" := by decide
      have n5 : ("high" : Str) ≠ "home" := by decide
      split at h
      · rcases h with h | h
        · have h : (if ptM a p g = "under" then ("down" : Str) else "up") = "still" := h
          split at h
          · exact n1 h
          · exact n2 h
        · exact n4 h
      · split at h
        · rcases h with h | h
          · exact n2 h
          · exact n5 h
        · rcases h with h | h
          · exact n3 h
          · have h : (if ptM a p g = "under" then ("low" : Str) else "high") = "home" := h
            split at h
            · exact n4 h
            · exact n5 h
  · have e1 : slM (sideM a p) "home" (ptM a p g) = (if sideM a p = "home" then ("still" : Str) else "jump", ("home" : Str)) := rfl
    have e2 : behM ⟨mode, pick, "home", thn, also⟩ p g = none := rfl
    rw [e1, e2]
    exact ⟨fun _ => rfl, fun h => absurd (.inr rfl) h⟩
theorem me_grs {rows : List RowM} {a n : Nat} {s : StM} {c : Acc} {d : PAcc} (h : PR rows a n s c d) : ("w" : Str) ∈ d.found ↔ a ∈ c.grs := by
  rw [h.mem]
  constructor
  · rintro ⟨g, h1, h2⟩
    rw [← pt_w.mp h2]; exact h1
  · intro h; exact ⟨a, h, pt_w.mpr rfl⟩
theorem tgt_of_vs {R : RuleM} {n a : Nat} {s t : StM} (ok : RowsOk R.rows) (ha : a < n) (h : VS R n a s t) : TgtM R n a s t := by
  obtain ⟨A, hA, hn, haA, hav, rfl⟩ := h
  obtain ⟨Q, hQdef⟩ : ∃ Q, Q = ((lineOf (sideM a s.2)).filter fun q => decide (q ≠ ("w" : Str))).filter fun q => A.any fun x => decide (ptM a s.2 x = q) := ⟨_, rfl⟩
  have memQ : ∀ q, q ∈ Q ↔ (q ∈ lineOf (sideM a s.2) ∧ q ≠ "w") ∧ ∃ x ∈ A, ptM a s.2 x = q := fun q => by
    rw [hQdef, List.mem_filter, List.mem_filter, decide_eq_true_eq, List.any_eq_true]
    constructor
    · rintro ⟨h1, x, h2, h3⟩; exact ⟨h1, x, h2, of_decide_eq_true h3⟩
    · rintro ⟨h1, x, h2, h3⟩; exact ⟨h1, x, h2, decide_eq_true h3⟩
  have hlot : Q ∈ lotsM (sideM a s.2) := by
    have := subs_filter (fun q => A.any fun x => decide (ptM a s.2 x = q)) ((lineOf (sideM a s.2)).filter fun q => decide (q ≠ ("w" : Str))) [[]] [] (by simp)
    rw [List.nil_append, ← hQdef] at this
    exact this
  have hset : SetOf a s.2 A (Q ++ [("w" : Str)]) := fun q hq => by
    rw [List.mem_append, memQ, List.mem_singleton]
    constructor
    · rintro (⟨_, h⟩ | rfl)
      · exact h
      · exact ⟨a, haA, pt_w.mpr rfl⟩
    · rintro ⟨x, h1, h2⟩
      by_cases hw : q = "w"
      · exact .inr hw
      · exact .inl ⟨⟨hq, hw⟩, x, h1, h2⟩
  have pr := pg_round (s := s) (fun r hr => (ok.2 r hr).1) ha hA hn hset
  have hw : ("w" : Str) ∉ (pgM R.rows s.1 (sideM a s.2) (Q ++ [("w" : Str)])).found := fun z => hav ((me_grs pr).mp z)
  have valid : ∀ v : VR, v.asking = Q → ValidV a n s v := fun v hv q hq e he => by
    rw [hv] at hq
    obtain ⟨_, x, h1, h2⟩ := (memQ q).mp hq
    have := (pt_iv (hn x h1) he).mp h2
    omega
  cases hd : (pgM R.rows s.1 (sideM a s.2) (Q ++ [("w" : Str)])).done with
  | none =>
    obtain ⟨_, hb⟩ := pr.no (pr.dn.symm.trans hd)
    refine ⟨⟨Q, none, "still", s.1, sideM a s.2⟩, List.mem_filterMap.mpr ⟨Q, hlot, ?_⟩, valid _ rfl, _, ?_, rfl⟩
    · unfold vr1; rw [if_neg hw, hd]
    · rw [hb]
  | some i =>
    obtain ⟨r, g, h1, h2, h3⟩ := pr.sm i (pr.dn.symm.trans hd)
    have hf := pr.hd
    rw [h2] at hf
    have hgA := grs_mem g (List.mem_of_getElem? h2)
    have hga : g ≠ a := fun z => hav (z ▸ List.mem_of_getElem? h2)
    have hqw : ptM a s.2 g ≠ "w" := fun z => hga (pt_w.mp z)
    obtain ⟨e, he⟩ := iv_some a n s.2 (pt_line a s.2 g) hqw
    have hin := (pt_iv (hn g hgA) he).mp rfl
    obtain ⟨sl1, sl2⟩ := sl_beh (a := a) (g := g) (p := s.2) (ok.2 r (List.mem_of_getElem? h1)).2
    have hv : vr1 R.rows s.1 (sideM a s.2) Q = some ⟨Q, some (ptM a s.2 g), (slM (sideM a s.2) r.move (ptM a s.2 g)).1, r.thn, (slM (sideM a s.2) r.move (ptM a s.2 g)).2⟩ := by
      unfold vr1; rw [if_neg hw, hd]
      simp only [h1, hf, Option.map_some]
    by_cases hc : (slM (sideM a s.2) r.move (ptM a s.2 g)).1 = "still" ∨ (slM (sideM a s.2) r.move (ptM a s.2 g)).2 = "home"
    · refine ⟨_, List.mem_filterMap.mpr ⟨Q, hlot, hv⟩, valid _ rfl, ⟨Q, some (ptM a s.2 g), some e.1⟩, e, he, ?_⟩
      rw [if_pos hc]
      refine ⟨?_, rfl⟩
      rw [h3, sl1 hc]
    · refine ⟨_, List.mem_filterMap.mpr ⟨Q, hlot, hv⟩, valid _ rfl, ⟨Q, some (ptM a s.2 g), some g⟩, e, he, ?_⟩
      rw [if_neg hc]
      exact ⟨g, hin.1, hin.2, by rw [h3, sl2 hc], rfl⟩
theorem rep_in {R : RuleM} {n a : Nat} {s t : StM} {v : VR} {c : Ch} (hv : v ∈ vrM R.rows s.1 (sideM a s.2)) (hval : ValidV a n s v) (hE : EntryOf a n s v t c) {q : Str} (hq : q ∈ c.asking) {e : Nat × Nat} (he : ivM a n s.2 q = some e) : e.1 ≤ repM a n s c q ∧ repM a n s c q < e.2 := by
  have hlt := hval q (by rw [← (entry_ch hE).1]; exact hq) e he
  unfold repM
  split
  · rename_i hc
    obtain ⟨vq, vp, vst, vl, vt⟩ := v
    cases vp with
    | none =>
      obtain ⟨_, rfl⟩ := hE
      cases hc
    | some q0 =>
      obtain ⟨e0, he0, z⟩ := hE
      split at z
      · obtain ⟨_, rfl⟩ := z
        cases hc
        have he0 : ivM a n s.2 q = some e0 := he0
        rw [he] at he0; cases he0
        exact ⟨Nat.le_refl _, hlt⟩
      · obtain ⟨spot, h1, h2, _, rfl⟩ := z
        cases hc
        have he0 : ivM a n s.2 q = some e0 := he0
        rw [he] at he0; cases he0
        exact ⟨h1, h2⟩
  · rw [he]
    exact ⟨Nat.le_refl _, hlt⟩
theorem asking_line {R : RuleM} {n a : Nat} {s t : StM} {v : VR} {c : Ch} (hv : v ∈ vrM R.rows s.1 (sideM a s.2)) (hE : EntryOf a n s v t c) {q : Str} (hq : q ∈ c.asking) : q ∈ lineOf (sideM a s.2) ∧ q ≠ "w" :=
  lots_line (sideM_mem a s.2) _ (vr_mem hv).1 q (by rw [← (entry_ch hE).1]; exact hq)
theorem rep_pt {R : RuleM} {n a : Nat} {s t : StM} {v : VR} {c : Ch} (ha : a < n) (hs : ∀ i, s.2 = some i → i < n) (hv : v ∈ vrM R.rows s.1 (sideM a s.2)) (hval : ValidV a n s v) (hE : EntryOf a n s v t c) {q : Str} (hq : q ∈ c.asking) : repM a n s c q < n ∧ ptM a s.2 (repM a n s c q) = q := by
  obtain ⟨h1, h2⟩ := asking_line hv hE hq
  obtain ⟨e, he⟩ := iv_some a n s.2 h1 h2
  have hi := rep_in hv hval hE hq he
  have hle := iv_le ha hs he
  have hlt : repM a n s c q < n := by omega
  exact ⟨hlt, (pt_iv hlt he).mpr hi⟩
theorem entry_round {R : RuleM} {n a : Nat} {s t : StM} {v : VR} {c : Ch} {A : List Nat} (ok : RowsOk R.rows) (ha : a < n) (hs : ∀ i, s.2 = some i → i < n) (hv : v ∈ vrM R.rows s.1 (sideM a s.2)) (hval : ValidV a n s v) (hE : EntryOf a n s v t c)
    (hA : ∀ x, x ∈ A ↔ x = a ∨ ∃ q ∈ c.asking, x = repM a n s c q) (hsrt : A.Pairwise (· < ·)) : (∀ x ∈ A, x < n) ∧ a ∈ A ∧ a ∉ (roundM R.rows s n A).grs ∧ t = (roundM R.rows s n A).beh := by
  have rp := fun {q : Str} (hq : q ∈ c.asking) => rep_pt ha hs hv hval hE hq
  have hn : ∀ x ∈ A, x < n := fun x hx => by
    rcases (hA x).mp hx with rfl | ⟨q, hq, rfl⟩
    · exact ha
    · exact (rp hq).1
  have haA : a ∈ A := (hA a).mpr (.inl rfl)
  have ec := (entry_ch hE).1
  have hset : SetOf a s.2 A (v.asking ++ [("w" : Str)]) := fun q hq => by
    rw [List.mem_append, List.mem_singleton]
    constructor
    · rintro (h | rfl)
      · have h : q ∈ c.asking := by rw [ec]; exact h
        exact ⟨_, (hA _).mpr (.inr ⟨q, h, rfl⟩), (rp h).2⟩
      · exact ⟨a, haA, pt_w.mpr rfl⟩
    · rintro ⟨x, h1, h2⟩
      rcases (hA x).mp h1 with rfl | ⟨q', hq', rfl⟩
      · exact .inr (h2.symm.trans (pt_w.mpr rfl))
      · left
        rw [← h2, (rp hq').2, ← ec]; exact hq'
  have pr := pg_round (s := s) (fun r hr => (ok.2 r hr).1) ha hsrt hn hset
  obtain ⟨Q, hQ, e⟩ := List.mem_filterMap.mp hv
  unfold vr1 at e
  split at e
  · cases e
  · rename_i hw
    split at e
    · rename_i hd
      cases e
      have hav : a ∉ (roundM R.rows s n A).grs := fun z => hw ((me_grs pr).mpr z)
      refine ⟨hn, haA, hav, ?_⟩
      obtain ⟨_, hb⟩ := pr.no (pr.dn.symm.trans hd)
      obtain ⟨e1, _⟩ := hE
      rw [hb, e1]
    · rename_i i hd
      split at e
      · rename_i r q h1 h2
        cases e
        have hav : a ∉ (roundM R.rows s n A).grs := fun z => hw ((me_grs pr).mpr z)
        refine ⟨hn, haA, hav, ?_⟩
        obtain ⟨r', g, k1, k2, k3⟩ := pr.sm i (pr.dn.symm.trans hd)
        rw [h1] at k1; cases k1
        have hf := pr.hd
        rw [k2] at hf
        have hf : (pgM R.rows s.1 (sideM a s.2) (Q ++ [("w" : Str)])).found[0]? = some (ptM a s.2 g) := hf
        rw [h2] at hf
        cases hf
        have hgA := grs_mem g (List.mem_of_getElem? k2)
        have hga : g ≠ a := fun z => hav (z ▸ List.mem_of_getElem? k2)
        obtain ⟨sl1, sl2⟩ := sl_beh (a := a) (g := g) (p := s.2) (ok.2 r (List.mem_of_getElem? h1)).2
        obtain ⟨e0, he0, z⟩ := hE
        rw [k3]
        split at z
        · rename_i hc
          obtain ⟨rfl, _⟩ := z
          rw [sl1 hc] <;> rfl
        · rename_i hc
          obtain ⟨spot, b1, b2, rfl, hce⟩ := z
          rw [sl2 hc]
          rcases (hA g).mp hgA with z | ⟨q', hq', z⟩
          · exact absurd z hga
          · have e3 := (rp hq').2
            rw [← z] at e3
            have : repM a n s c q' = spot := by
              unfold repM
              rw [hce, ← e3]
              simp
            rw [z, this] <;> rfl
      · cases e
theorem lots_nd {side : Str} (h : side ∈ sidesL) : ∀ Q ∈ lotsM side, Q.Nodup := by
  rcases side_cases h with rfl | rfl | rfl | rfl <;> decide
theorem map_nodup {α β : Type} {f : α → β} {g : β → α} : ∀ {xs : List α}, xs.Nodup → (∀ x ∈ xs, g (f x) = x) → (xs.map f).Nodup
  | [], _, _ => List.nodup_nil
  | x :: xs, nd, h => by
    obtain ⟨n1, n2⟩ := List.nodup_cons.mp nd
    refine List.nodup_cons.mpr ⟨fun z => ?_, map_nodup n2 fun y hy => h y (List.mem_cons_of_mem _ hy)⟩
    obtain ⟨y, hy, e⟩ := List.mem_map.mp z
    have e1 := h x List.mem_cons_self
    have e2 := h y (List.mem_cons_of_mem _ hy)
    rw [← e, e2] at e1
    exact n1 (e1 ▸ hy)
/-- a round that row has told is a round in vain -/
theorem row_round {R : RuleM} {n a : Nat} {s t : StM} {v : VR} {c : Ch} {A : List Nat} (ok : RowsOk R.rows) (ha : a < n) (hs : ∀ i, s.2 = some i → i < n) (hv : v ∈ vrM R.rows s.1 (sideM a s.2)) (hval : ValidV a n s v) (hE : EntryOf a n s v t c)
    (hp : A.Perm (c.asking.map (repM a n s c) ++ [a])) (hle : A.Pairwise (· ≤ ·)) : A.Pairwise (· < ·) ∧ (∀ x ∈ A, x < n) ∧ a ∈ A ∧ a ∉ (roundM R.rows s n A).grs ∧ t = (roundM R.rows s n A).beh := by
  have rp := fun {q : Str} (hq : q ∈ c.asking) => rep_pt ha hs hv hval hE hq
  have nd : (c.asking.map (repM a n s c) ++ [a]).Nodup := by
    rw [List.nodup_append]
    refine ⟨map_nodup (g := ptM a s.2) (by rw [(entry_ch hE).1]; exact lots_nd (sideM_mem a s.2) _ (vr_mem hv).1) fun q hq => (rp hq).2, by simp, ?_⟩
    intro x hx y hy z
    have : y = a := by simpa using hy
    obtain ⟨q, hq, rfl⟩ := List.mem_map.mp hx
    have e := (rp hq).2
    rw [z, this, pt_w.mpr rfl] at e
    exact (asking_line hv hE hq).2 e.symm
  have ndA : A.Nodup := hp.nodup_iff.mpr nd
  have hlt : A.Pairwise (· < ·) := by
    have ndA : A.Pairwise (· ≠ ·) := ndA
    exact (hle.and ndA).imp fun h => by omega
  refine ⟨hlt, entry_round ok ha hs hv hval hE (fun x => ?_) hlt⟩
  rw [hp.mem_iff, List.mem_append, List.mem_singleton, List.mem_map]
  constructor
  · rintro (⟨q, h1, h2⟩ | h)
    · exact .inr ⟨q, h1, h2.symm⟩
    · exact .inl h
  · rintro (h | ⟨q, h1, h2⟩)
    · exact .inr h
    · exact .inl ⟨q, h1, h2.symm⟩
theorem vs_of_tgt {R : RuleM} {n a : Nat} {s t : StM} (ok : RowsOk R.rows) (ha : a < n) (hs : ∀ i, s.2 = some i → i < n) (h : TgtM R n a s t) : VS R n a s t := by
  obtain ⟨v, hv, hval, c, hE⟩ := h
  have rp := fun {q : Str} (hq : q ∈ c.asking) => rep_pt ha hs hv hval hE hq
  obtain ⟨A, hAdef⟩ : ∃ A, A = (List.range n).filter fun x => decide (x = a) || c.asking.any fun q => decide (x = repM a n s c q) := ⟨_, rfl⟩
  have hlt : A.Pairwise (· < ·) := by rw [hAdef]; exact List.Pairwise.filter _ List.pairwise_lt_range
  obtain ⟨h1, h2, h3, h4⟩ := entry_round (A := A) ok ha hs hv hval hE (fun x => by
    rw [hAdef, List.mem_filter, List.mem_range, Bool.or_eq_true, decide_eq_true_eq, List.any_eq_true]
    constructor
    · rintro ⟨_, h | ⟨q, h1, h2⟩⟩
      · exact .inl h
      · exact .inr ⟨q, h1, of_decide_eq_true h2⟩
    · rintro (rfl | ⟨q, h1, rfl⟩)
      · exact ⟨ha, .inl rfl⟩
      · exact ⟨(rp h1).1, .inr ⟨q, h1, decide_eq_true rfl⟩⟩) hlt
  exact ⟨A, hlt, h1, h2, h3, h4⟩
end K3
set_option Elab.async false
set_option linter.all false
set_option maxRecDepth 100000
set_option maxHeartbeats 800000
set_option pp.maxSteps 600
/-! KM7: rows of rounds in vain; how long one waits. -/
namespace K3
open PySem PySem.Spec PyProof.Rows L2
/-- so many rounds in vain one behind another -/
def VP (R : RuleM) (n a : Nat) : Nat → StM → Prop
  | 0, _ => True
  | k + 1, s => ∃ t, VS R n a s t ∧ VP R n a k t
def Rch (R : RuleM) (n : Nat) (s : StM) : Prop := ∃ p, SPath R.rows n (R.first, none) p s
/-- how long one waits -/
def WaitIs (R : RuleM) (n : Nat) (o : Option Nat) : Prop := match o with
  | none => ∃ a, a < n ∧ ∃ s, Rch R n s ∧ ∀ k, VP R n a k s
  | some M => (∃ a, a < n ∧ ∃ s, Rch R n s ∧ VP R n a M s) ∧ ∀ a, a < n → ∀ s, Rch R n s → ∀ k, VP R n a k s → k ≤ M
theorem wait_uniq {R : RuleM} {n : Nat} {o o' : Option Nat} (h : WaitIs R n o) (h' : WaitIs R n o') : o = o' := by
  cases o with
  | none =>
    cases o' with
    | none => rfl
    | some M =>
      obtain ⟨a, ha, s, hs, hk⟩ := h
      have := h'.2 a ha s hs (M + 1) (hk (M + 1))
      omega
  | some M =>
    cases o' with
    | none =>
      obtain ⟨a, ha, s, hs, hk⟩ := h'
      have := h.2 a ha s hs (M + 1) (hk (M + 1))
      omega
    | some M' =>
      obtain ⟨a, ha, s, hs, hk⟩ := h.1
      obtain ⟨a', ha', s', hs', hk'⟩ := h'.1
      have := h.2 a' ha' s' hs' M' hk'
      have := h'.2 a ha s hs M hk
      congr 1; omega
/-! ### a round leads where one asker alone leads -/
theorem hit_single_none {r : RowM} {s : StM} {n : Nat} {A : List Nat} (h : hitM r s n A = none) {g : Nat} (hg : g ∈ A) : hitM r s n [g] = none := by
  unfold hitM at h ⊢
  split
  · rename_i hm
    rw [if_pos hm] at h
    unfold grM at h ⊢
    rw [List.find?_eq_none] at h ⊢
    intro x hx
    rw [List.mem_singleton.mp hx]; exact h g hg
  · rfl
theorem hit_single {r : RowM} {s : StM} {n : Nat} {A : List Nat} {g : Nat} (h : hitM r s n A = some g) : hitM r s n [g] = some g := by
  unfold hitM at h ⊢
  split at h
  · rename_i hm
    rw [if_pos hm]
    unfold grM at h ⊢
    have := List.find?_some h
    rw [List.find?_cons, this]
  · cases h
theorem beh_single {rows : List RowM} {s : StM} {n : Nat} {A : List Nat} : (roundM rows s n A).beh = s ∨ ∃ g ∈ A, (roundM rows s n A).beh = succM rows n s g := by
  rcases first_hit s n A rows with h1 | ⟨pre, r, post, g, e, h1, h2⟩
  · rw [round_none h1]; exact .inl rfl
  · right
    have hg := hit_mem h2
    refine ⟨g, hg, ?_⟩
    unfold succM
    rw [e, round_some h1 h2, round_some (fun r' hr' => hit_single_none (h1 r' hr') hg) (hit_single h2)]
theorem tgt_cl {R : RuleM} {n : Nat} (ok : RowsOk R.rows) : TgtCl R n := by
  intro ss _ hu hc a ha s hs t ht
  obtain ⟨A, hA, hn, haA, hav, rfl⟩ := vs_of_tgt ok ha (mem_univ.mp (hu s hs)).2 ht
  rcases beh_single (rows := R.rows) (s := s) (n := n) (A := A) with e | ⟨g, hg, e⟩
  · rw [e]; exact hs
  · rw [e]; exact hc s hs g (hn g hg)
theorem rch_start {R : RuleM} {n : Nat} : Rch R n (R.first, none) := ⟨[], .nil⟩
theorem rch_round {R : RuleM} {n : Nat} {s : StM} {A : List Nat} (h : Rch R n s) (hn : ∀ x ∈ A, x < n) : Rch R n (roundM R.rows s n A).beh := by
  rcases beh_single (rows := R.rows) (s := s) (n := n) (A := A) with e | ⟨g, hg, e⟩
  · rw [e]; exact h
  · obtain ⟨p, hp⟩ := h
    rw [e]; exact ⟨p ++ [g], .snoc hp (hn g hg)⟩
theorem spath_univ {R : RuleM} {n : Nat} {s : StM} {p : List Nat} (h : SPath R.rows n (R.first, none) p s) : s ∈ univM R n := by
  induction h with
  | nil => exact mem_univ.mpr ⟨.inl rfl, fun i hi => nomatch hi⟩
  | snoc h ha ih => exact beh_univ ih fun b hb => by rcases List.mem_singleton.mp hb with rfl; exact ha
theorem rch_ptr {R : RuleM} {n : Nat} {s : StM} (h : Rch R n s) : ∀ i, s.2 = some i → i < n := by
  obtain ⟨p, hp⟩ := h
  exact (mem_univ.mp (spath_univ hp)).2
theorem rch_ways {R : RuleM} {n : Nat} {ways : List (StM × List Nat)} (w : WI R n ways) (c : ∀ s ∈ keysS ways, ClosedM R.rows n ways s) {s : StM} : s ∈ keysS ways ↔ Rch R n s := by
  constructor
  · intro h
    obtain ⟨p, hp⟩ := lookS_some h
    exact ⟨p, (w.pt _ (lookS_mem hp)).1⟩
  · rintro ⟨p, hp⟩
    induction hp with
    | nil => exact w.st
    | snoc h ha ih => exact c _ ih _ ha
/-! ### the order of filling tells the longest rows -/
section
variable {R : RuleM} {n a : Nat} {ss ks : List StM} {L : StM → List StM} {len : StM → Nat}
theorem fill_le (ok : RowsOk R.rows) (ha : a < n) (hL : ∀ s ∈ ss, LatOk R n a s (L s)) (f : FillOk ss L ks len) : ∀ (k : Nat) (s : StM), s ∈ ks → VP R n a k s → k ≤ len s
  | 0, _, _, _ => Nat.zero_le _
  | k + 1, s, hs, h => by
    obtain ⟨t, h1, h2⟩ := h
    have ht : t ∈ L s := ((hL s (f.sub s hs)).mem t).mpr (tgt_of_vs ok ha h1)
    obtain ⟨h3, h4⟩ := f.lo s hs t ht
    have := fill_le ok ha hL f k t h3 h2
    omega
theorem fill_ge (ok : RowsOk R.rows) (ha : a < n) (hu : ∀ s ∈ ss, s ∈ univM R n) (hL : ∀ s ∈ ss, LatOk R n a s (L s)) (f : FillOk ss L ks len) : ∀ (k : Nat) (s : StM), s ∈ ks → k ≤ len s → VP R n a k s
  | 0, _, _, _ => trivial
  | k + 1, s, hs, h => by
    rcases f.hi s hs with e | ⟨t, ht, e⟩
    · omega
    · have hss := f.sub s hs
      exact ⟨t, vs_of_tgt ok ha (mem_univ.mp (hu s hss)).2 (((hL s hss).mem t).mp ht), fill_ge ok ha hu hL f k t (f.lo s hs t ht).1 (by omega)⟩
theorem fill_inf (ok : RowsOk R.rows) (ha : a < n) (hu : ∀ s ∈ ss, s ∈ univM R n) (hL : ∀ s ∈ ss, LatOk R n a s (L s)) (hcl : ∀ s ∈ ss, ∀ t ∈ L s, t ∈ ss) (f : FillOk ss L ks len) : ∀ (k : Nat) (s : StM), s ∈ ss → s ∉ ks → VP R n a k s
  | 0, _, _, _ => trivial
  | k + 1, s, hs, h => by
    obtain ⟨t, ht, h2⟩ := f.full s hs h
    exact ⟨t, vs_of_tgt ok ha (mem_univ.mp (hu s hs)).2 (((hL s hs).mem t).mp ht), fill_inf ok ha hu hL hcl f k t (hcl s hs t ht) h2⟩
end
/-! ### rows of rounds, from the head -/
def VSeq (R : RuleM) (n a : Nat) : StM → List (List Nat) → StM → Prop
  | s, [], t => s = t
  | s, A :: As, t => (A.Pairwise (· < ·) ∧ (∀ x ∈ A, x < n) ∧ a ∈ A ∧ a ∉ (roundM R.rows s n A).grs) ∧ VSeq R n a (roundM R.rows s n A).beh As t
theorem VSeq.snoc {R : RuleM} {n a : Nat} {A : List Nat} : ∀ {As : List (List Nat)} {s t : StM}, VSeq R n a s As t → (A.Pairwise (· < ·) ∧ (∀ x ∈ A, x < n) ∧ a ∈ A ∧ a ∉ (roundM R.rows t n A).grs) → VSeq R n a s (As ++ [A]) (roundM R.rows t n A).beh
  | [], s, t, h, k => by
    have h : s = t := h
    subst h
    exact ⟨k, rfl⟩
  | B :: As, s, t, h, k => ⟨h.1, VSeq.snoc h.2 k⟩
theorem VSeq.vp {R : RuleM} {n a : Nat} : ∀ {As : List (List Nat)} {s t : StM}, VSeq R n a s As t → VP R n a As.length s
  | [], _, _, _ => trivial
  | A :: As, s, t, h => ⟨_, ⟨A, h.1.1, h.1.2.1, h.1.2.2.1, h.1.2.2.2, rfl⟩, VSeq.vp h.2⟩
theorem VSeq.rch {R : RuleM} {n a : Nat} : ∀ {As : List (List Nat)} {s t : StM}, VSeq R n a s As t → Rch R n s → Rch R n t
  | [], s, t, h, r => by
    have h : s = t := h
    subst h; exact r
  | A :: As, s, t, h, r => VSeq.rch h.2 (rch_round r h.1.2.1)
theorem rowq_seq {R : RuleM} {n a : Nat} {s t : StM} {As : List (List Nat)} (ok : RowsOk R.rows) (ha : a < n) (hr : Rch R n s) (h : RowQ R n a s As t) : VSeq R n a s As t := by
  induction h with
  | nil => rfl
  | snoc h hv hval hE hA hs ih =>
    have hp := rch_ptr (ih.rch hr)
    obtain ⟨h1, h2, h3, h4, rfl⟩ := row_round ok ha hp hv hval hE hA hs
    exact ih.snoc ⟨h1, h2, h3, h4⟩
/-- what longest tells is how long one waits -/
theorem long_is {R : RuleM} {n : Nat} {r : Option (Nat × List Nat × List (List Nat))} (ok : RowsOk R.rows) (h : LongP R n r) : WaitIs R n (r.map fun q => q.2.2.length) ∧
    ∀ a p As, r = some (a, p, As) → a < n ∧ ∃ s t, SPath R.rows n (R.first, none) p s ∧ VSeq R n a s As t := by
  obtain ⟨ways, Ls, kss, lens, w, c, h⟩ := h
  have hu := w.un
  have rw_ := fun {s : StM} => rch_ways w c (s := s)
  have cl := tgt_cl (n := n) ok (keysS ways) w.st hu c
  cases r with
  | none =>
    obtain ⟨a, ha, wm, s, hs, hn⟩ := h
    refine ⟨⟨a, ha, s, rw_.mp hs, fun k => ?_⟩, fun a p As z => nomatch z⟩
    exact fill_inf ok ha hu wm.lat (fun s hs t ht => cl a ha s hs t (((wm.lat s hs).mem t).mp ht)) wm.fill k s hs hn
  | some q =>
    obtain ⟨a, p, As⟩ := q
    obtain ⟨hw, ha, s, t, hsp, hq, hl, hmax⟩ := h
    obtain ⟨wm, hall⟩ := hw a ha
    have hs : s ∈ keysS ways := keyS_of_mem hsp
    have hseq := rowq_seq ok ha (rw_.mp hs) hq
    refine ⟨⟨⟨a, ha, s, rw_.mp hs, hseq.vp⟩, fun b hb s' hs' k hk => ?_⟩, fun a' p' As' z => ?_⟩
    · obtain ⟨wb, hallb⟩ := hw b hb
      have hs2 := rw_.mpr hs'
      have := fill_le ok hb wb.lat wb.fill k s' (hallb s' hs2) hk
      have := hmax b hb s' hs2
      show k ≤ As.length
      omega
    · cases z
      exact ⟨ha, s, t, (w.pt _ hsp).1, hseq⟩
/-! ### more askers -/
theorem find_congr {α : Type} {f g : α → Bool} : ∀ {xs : List α}, (∀ x ∈ xs, f x = g x) → xs.find? f = xs.find? g
  | [], _ => rfl
  | x :: xs, h => by
    rw [List.find?_cons, List.find?_cons, h x List.mem_cons_self, find_congr fun y hy => h y (List.mem_cons_of_mem _ hy)]
theorem reg_more {r : RowM} {p : Option Nat} {n m x : Nat} (hx : x < n) (hm : n ≤ m) : inReg r p n x = inReg r p m x := by
  unfold inReg regM
  cases p with
  | none =>
    simp only []
    split
    · rw [decide_eq_decide]
      constructor
      · rintro ⟨h1, h2⟩; exact ⟨h1, Nat.lt_of_lt_of_le h2 hm⟩
      · rintro ⟨h1, h2⟩; exact ⟨h1, hx⟩
    · rfl
  | some i =>
    simp only []
    split
    · rw [decide_eq_decide]
      constructor
      · rintro ⟨h1, h2⟩; exact ⟨h1, Nat.lt_of_lt_of_le h2 hm⟩
      · rintro ⟨h1, h2⟩; exact ⟨h1, hx⟩
    · split
      · rfl
      · split
        · rfl
        · split
          · rw [decide_eq_decide]
            constructor
            · rintro ⟨h1, h2⟩; exact ⟨h1, Nat.lt_of_lt_of_le h2 hm⟩
            · rintro ⟨h1, h2⟩; exact ⟨h1, hx⟩
          · rw [decide_eq_decide]
            constructor
            · rintro ⟨h1, h2⟩; exact ⟨h1, Nat.lt_of_lt_of_le h2 hm⟩
            · rintro ⟨h1, h2⟩; exact ⟨h1, hx⟩
theorem hit_more {r : RowM} {s : StM} {n m : Nat} {A : List Nat} (hn : ∀ x ∈ A, x < n) (hm : n ≤ m) : hitM r s n A = hitM r s m A := by
  unfold hitM grM
  rw [find_congr fun x hx => reg_more (r := r) (p := s.2) (hn x hx) hm]
theorem rd_more {s : StM} {n m : Nat} {A : List Nat} (hn : ∀ x ∈ A, x < n) (hm : n ≤ m) : ∀ (rows : List RowM) (i : Nat) (c : Acc), rdM s n A rows i c = rdM s m A rows i c
  | [], _, _ => rfl
  | r :: rows, i, c => by
    show rdM s n A rows (i + 1) (accM s n A i r c) = rdM s m A rows (i + 1) (accM s m A i r c)
    have e : accM s n A i r c = accM s m A i r c := by unfold accM; rw [hit_more hn hm]
    rw [e, rd_more hn hm rows (i + 1)]
theorem round_more {rows : List RowM} {s : StM} {n m : Nat} {A : List Nat} (hn : ∀ x ∈ A, x < n) (hm : n ≤ m) : roundM rows s n A = roundM rows s m A := rd_more hn hm rows 0 _
theorem rch_more {R : RuleM} {n m : Nat} {s : StM} (hm : n ≤ m) (h : Rch R n s) : Rch R m s := by
  obtain ⟨p, hp⟩ := h
  refine ⟨p, ?_⟩
  induction hp with
  | nil => exact .nil
  | @snoc p s a h ha ih =>
    have e : succM R.rows n s a = succM R.rows m s a := by
      unfold succM
      rw [round_more (fun x hx => by rw [List.mem_singleton.mp hx]; exact ha) hm]
    rw [e]
    exact .snoc ih (Nat.lt_of_lt_of_le ha hm)
theorem vp_more {R : RuleM} {n m a : Nat} (hm : n ≤ m) : ∀ {k : Nat} {s : StM}, VP R n a k s → VP R m a k s
  | 0, _, _ => trivial
  | k + 1, s, h => by
    obtain ⟨t, ⟨A, h1, h2, h3, h4, h5⟩, h6⟩ := h
    rw [round_more h2 hm] at h4 h5
    exact ⟨t, ⟨A, h1, fun x hx => Nat.lt_of_lt_of_le (h2 x hx) hm, h3, h4, h5⟩, vp_more hm h6⟩
theorem wait_none {R : RuleM} {n m : Nat} {o : Option Nat} (hm : n ≤ m) (h : WaitIs R n none) (h' : WaitIs R m o) : o = none := by
  obtain ⟨a, ha, s, hs, hk⟩ := h
  exact wait_uniq h' (o' := none) ⟨a, Nat.lt_of_lt_of_le ha hm, s, rch_more hm hs, fun k => vp_more hm (hk k)⟩
theorem wait_le {R : RuleM} {n m M M' : Nat} (hm : n ≤ m) (h : WaitIs R n (some M)) (h' : WaitIs R m (some M')) : M ≤ M' := by
  obtain ⟨⟨a, ha, s, hs, hk⟩, _⟩ := h
  exact h'.2 a (Nat.lt_of_lt_of_le ha hm) s (rch_more hm hs) M (vp_more hm hk)
/-! ### rounds played -/
theorem srt_uniq : ∀ {A B : List Nat}, A.Pairwise (· < ·) → B.Pairwise (· < ·) → (∀ x, x ∈ A ↔ x ∈ B) → A = B
  | [], [], _, _, _ => rfl
  | [], b :: B, _, _, h => absurd ((h b).mpr List.mem_cons_self) (by simp)
  | a :: A, [], _, _, h => absurd ((h a).mp List.mem_cons_self) (by simp)
  | a :: A, b :: B, ha, hb, h => by
    obtain ⟨a1, a2⟩ := List.pairwise_cons.mp ha
    obtain ⟨b1, b2⟩ := List.pairwise_cons.mp hb
    have e : a = b := by
      rcases List.mem_cons.mp ((h a).mp List.mem_cons_self) with z | z
      · exact z
      · rcases List.mem_cons.mp ((h b).mpr List.mem_cons_self) with y | y
        · exact y.symm
        · have := a1 b y
          have := b1 a z
          omega
    subst e
    rw [srt_uniq a2 b2 fun x => ?_]
    constructor
    · intro hx
      rcases List.mem_cons.mp ((h x).mp (List.mem_cons_of_mem _ hx)) with z | z
      · have := a1 x hx
        omega
      · exact z
    · intro hx
      rcases List.mem_cons.mp ((h x).mpr (List.mem_cons_of_mem _ hx)) with z | z
      · have := b1 x hx
        omega
      · exact z
/-- rounds played, from the head -/
def RunF (rows : List RowM) (n : Nat) : StM → List (List Nat) → List (List Nat) → StM → Prop
  | s, [], gss, t => gss = [] ∧ s = t
  | s, A :: As, gss, t => ∃ A' gs gss', gss = gs :: gss' ∧ SrtOf A A' ∧ (∀ a ∈ A', a < n) ∧ SrtOf (roundM rows s n A').grs gs ∧ RunF rows n (roundM rows s n A').beh As gss' t
theorem RunF.snoc {rows : List RowM} {n : Nat} {A A' gs : List Nat} : ∀ {As gss : List (List Nat)} {s t : StM}, RunF rows n s As gss t → SrtOf A A' → (∀ a ∈ A', a < n) → SrtOf (roundM rows t n A').grs gs → RunF rows n s (As ++ [A]) (gss ++ [gs]) (roundM rows t n A').beh
  | [], gss, s, t, h, k1, k2, k3 => by
    obtain ⟨rfl, h⟩ := h
    subst h
    exact ⟨A', gs, [], rfl, k1, k2, k3, rfl, rfl⟩
  | B :: As, gss, s, t, h, k1, k2, k3 => by
    obtain ⟨B', gs', gss', rfl, h1, h2, h3, h4⟩ := h
    exact ⟨B', gs', gss' ++ [gs], rfl, h1, h2, h3, RunF.snoc h4 k1 k2 k3⟩
theorem run_f {rows : List RowM} {n : Nat} {s t : StM} {As gss : List (List Nat)} (h : RunM rows n s As gss t) : RunF rows n s As gss t := by
  induction h with
  | nil => exact ⟨rfl, rfl⟩
  | snoc h hA hn hg ih => exact ih.snoc hA hn hg
theorem RunF.app {rows : List RowM} {n : Nat} : ∀ {As Bs gss : List (List Nat)} {s t : StM}, RunF rows n s (As ++ Bs) gss t → ∃ u gs1 gs2, gss = gs1 ++ gs2 ∧ gs1.length = As.length ∧ RunF rows n s As gs1 u ∧ RunF rows n u Bs gs2 t
  | [], Bs, gss, s, t, h => ⟨s, [], gss, rfl, rfl, ⟨rfl, rfl⟩, h⟩
  | A :: As, Bs, gss, s, t, h => by
    obtain ⟨A', gs, gss', rfl, h1, h2, h3, h4⟩ := h
    obtain ⟨u, gs1, gs2, rfl, k1, k2, k3⟩ := RunF.app h4
    exact ⟨u, gs :: gs1, gs2, rfl, by simp [k1], ⟨A', gs, gs1, rfl, h1, h2, h3, k2⟩, k3⟩
theorem RunF.len {rows : List RowM} {n : Nat} : ∀ {As gss : List (List Nat)} {s t : StM}, RunF rows n s As gss t → gss.length = As.length
  | [], gss, s, t, h => by rw [h.1] <;> rfl
  | A :: As, gss, s, t, h => by
    obtain ⟨A', gs, gss', rfl, h1, h2, h3, h4⟩ := h
    rw [List.length_cons, List.length_cons, RunF.len h4]
theorem RunF.single {rows : List RowM} {n : Nat} : ∀ {p : List Nat} {gss : List (List Nat)} {s t : StM}, RunF rows n s (p.map fun a => [a]) gss t → t = p.foldl (succM rows n) s
  | [], gss, s, t, h => h.2.symm
  | a :: p, gss, s, t, h => by
    obtain ⟨A', gs, gss', rfl, h1, h2, h3, h4⟩ := h
    have e : A' = [a] := srt_uniq h1.1 (by simp) h1.2
    subst e
    have ih := RunF.single h4
    exact ih
theorem spath_end {rows : List RowM} {n : Nat} {s0 s : StM} {p : List Nat} (h : SPath rows n s0 p s) : s = p.foldl (succM rows n) s0 := by
  induction h with
  | nil => rfl
  | snoc h ha ih => rw [List.foldl_append, ← ih] <;> rfl
theorem spath_lt {rows : List RowM} {n : Nat} {s0 s : StM} {p : List Nat} (h : SPath rows n s0 p s) : ∀ a ∈ p, a < n := by
  induction h with
  | nil => intro a ha; cases ha
  | snoc h ha ih =>
    intro b hb
    rcases List.mem_append.mp hb with z | z
    · exact ih b z
    · rw [List.mem_singleton.mp z]; exact ha
theorem VSeq.lt {R : RuleM} {n a : Nat} : ∀ {As : List (List Nat)} {s t : StM}, VSeq R n a s As t → ∀ A ∈ As, A.Pairwise (· < ·) ∧ (∀ x ∈ A, x < n)
  | [], _, _, _, A, hA => by cases hA
  | B :: As, s, t, h, A, hA => by
    rcases List.mem_cons.mp hA with rfl | z
    · exact ⟨h.1.1, h.1.2.1⟩
    · exact VSeq.lt h.2 A z
/-- the most rounds in vain one behind another, told from the grants -/
def mivF (a : Nat) : List (List Nat) → List (List Nat) → Nat × Nat → Nat × Nat
  | gs :: gss, A :: As, (f, h) =>
    let h' := if a ∈ A ∧ a ∉ gs then h + 1 else 0
    mivF a gss As (max f h', h')
  | _, _, c => c
theorem miv_seq {R : RuleM} {n a : Nat} : ∀ {As gss : List (List Nat)} {s t u : StM} {h : Nat}, VSeq R n a s As t → RunF R.rows n s As gss u → mivF a gss As (h, h) = (h + As.length, h + As.length)
  | [], gss, s, t, u, h, _, k => by
    obtain ⟨rfl, _⟩ := k
    rfl
  | A :: As, gss, s, t, u, h, v, k => by
    obtain ⟨A', gs, gss', rfl, h1, h2, h3, h4⟩ := k
    have e : A' = A := srt_uniq h1.1 v.1.1 h1.2
    subst e
    have hv : a ∈ A' ∧ a ∉ gs := ⟨v.1.2.2.1, fun z => v.1.2.2.2 ((h3.2 a).mp z)⟩
    show mivF a gss' As (max h (if a ∈ A' ∧ a ∉ gs then h + 1 else 0), if a ∈ A' ∧ a ∉ gs then h + 1 else 0) = _
    rw [if_pos hv, show max h (h + 1) = h + 1 from by omega, miv_seq v.2 h4]
    simp; omega
/-- k rounds in vain from u to s -/
inductive VTo (R : RuleM) (n a : Nat) (u : StM) : Nat → StM → Prop
  | nil : VTo R n a u 0 u
  | snoc {k : Nat} {s t : StM} (h : VTo R n a u k s) (v : VS R n a s t) : VTo R n a u (k + 1) t
theorem vto_vp {R : RuleM} {n a : Nat} {u s : StM} {k : Nat} (h : VTo R n a u k s) : ∀ j, VP R n a j s → VP R n a (k + j) u := by
  induction h with
  | nil => intro j hj; rw [Nat.zero_add]; exact hj
  | @snoc k s t h v ih =>
    intro j hj
    have := ih (j + 1) ⟨t, v, hj⟩
    rwa [show k + 1 + j = k + (j + 1) from by omega]
theorem miv_le {R : RuleM} {n a M : Nat} (ha : a < n) (hM : WaitIs R n (some M)) : ∀ {As gss : List (List Nat)} {s t u : StM} {f h : Nat}, RunF R.rows n s As gss t → Rch R n s → f ≤ M → Rch R n u → VTo R n a u h s → (mivF a gss As (f, h)).1 ≤ M
  | [], gss, s, t, u, f, h, k, _, hf, _, _ => by
    obtain ⟨rfl, _⟩ := k
    exact hf
  | A :: As, gss, s, t, u, f, h, k, hs, hf, hu, hv => by
    obtain ⟨A', gs, gss', rfl, h1, h2, h3, h4⟩ := k
    show (mivF a gss' As (max f (if a ∈ A ∧ a ∉ gs then h + 1 else 0), if a ∈ A ∧ a ∉ gs then h + 1 else 0)).1 ≤ M
    by_cases hc : a ∈ A ∧ a ∉ gs
    · rw [if_pos hc]
      have v : VS R n a s (roundM R.rows s n A').beh := ⟨A', h1.1, h2, (h1.2 a).mpr hc.1, fun z => hc.2 ((h3.2 a).mpr z), rfl⟩
      have hb := hM.2 a ha u hu (h + 1) (vto_vp (hv.snoc v) 0 trivial)
      exact miv_le ha hM h4 (rch_round hs h2) (by omega) hu (hv.snoc v)
    · rw [if_neg hc]
      exact miv_le ha hM h4 (rch_round hs h2) (by omega) (rch_round hs h2) .nil
end K3
set_option Elab.async false
set_option linter.all false
set_option maxRecDepth 100000
set_option maxHeartbeats 800000
set_option pp.maxSteps 600
/-! KG18: Row. -/
namespace K3
open PySem PySem.Spec PyProof.Rows L2
def RowOk (r : RowM) : Prop := nameOk r.mode = true ∧ r.pick ∈ picksL ∧ r.move ∈ movesL ∧ nameOk r.thn = true
def S_Row (K : PySem.W.Frag) : DSp := fun xs μ Φ => ∃ (p : Addr) (r : RowM), xs = [dR p, dS r.mode, dS r.pick, dS r.move, dS r.thn, dB r.also] ∧ μ p = some (.ob (He.ga K "Row") [] []) ∧ RowOk r ∧
  ∀ μ', (∀ a, a ≠ p → μ' a = μ a) → μ' p = some (.ob (He.ga K "Row") ["mode", "pick", "move", "then", "also"] [dS r.mode, dS r.pick, dS r.move, dS r.thn, dB r.also]) → Φ dN μ'
def S_RowEq : DSp := fun xs μ Φ => ∃ (C : Addr) (L : List Str) (ds : List D), xs = [.ob C L ds, dN] ∧ Φ (dB false) μ
section
variable {P : Program} {w : World} {K : PySem.W.Frag} {mg : Str → Option Value} {base : Heap}
theorem sc_Row___init__ : FnScope ["self", "mode", "pick", "move", "then", "also"] ["self", "mode", "pick", "move", "then", "also"] (defScope (inClass (top 50) 0)) := ⟨rfl, rfl, rfl, by decide +kernel, rfl, by decide +kernel, by decide +kernel⟩
theorem B_Row___init__ (T : TF w K mg) (G_is_name : FnG P w K mg base "is_name" ["value"] 1 (S_is_name)) (G_is_word : FnG P w K mg base "is_word" ["value", "words"] 1 (S_is_word)) : ∀ {f : Addr} {cdv : Value} {A : Around} {outer : List Env} {s : Shared} {H : Hp} {E : XK}, Room 1 (A.deeper (envOfC "Row.__init__" (defScope (inClass (top 50) 0)) s.heap.objs.size f cdv)) → ∃ ds, QSs (cxOf CX0 P w K mg base ["self", "mode", "pick", "move", "then", "also"] "Row.__init__" (defScope (inClass (top 50) 0)) f cdv A outer s H E).nox (defBody (inClass (top 50) 0)) ds ∧ ∀ args μ Φ, ((S_Row K) : DSp) args μ Φ → ds (endD μ Φ) (startD (["self", "mode", "pick", "move", "then", "also"] : List Str).length args) μ := by
  intro f cdv A outer s H E hr
  have nd := sc_Row___init__.nd
  refine ⟨_, (ss_cons (s_if (t_not (t_val (q_call G_is_name (hr.mono (by decide)) rfl (a_cons (q_var 1) a_nil)))) (ss_one s_never) ss_nil)
      (ss_cons (s_if (t_not (t_val (q_call G_is_word (hr.mono (by decide)) rfl (a_cons (q_var 2) (a_cons (q_kt (fun _ _ => kt_ok) (q_gR rfl T.picks)) a_nil))))) (ss_one s_never) ss_nil)
      (ss_cons (s_if (t_not (t_val (q_call G_is_word (hr.mono (by decide)) rfl (a_cons (q_var 3) (a_cons (q_kt (fun _ _ => kt_ok) (q_gR rfl T.moves)) a_nil))))) (ss_one s_never) ss_nil)
      (ss_cons (s_if (t_not (t_val (q_call G_is_name (hr.mono (by decide)) rfl (a_cons (q_var 4) a_nil)))) (ss_one s_never) ss_nil)
      (ss_cons (s_if (t_not (t_val (q_cb call_isi sim_isi rfl (T.free "isinstance" (by simp)) (by decide +kernel) (a_cons (q_var 5) (a_cons (q_ty (n := "bool") rfl (T.free "bool" (by simp)) (by decide +kernel)) a_nil))))) (ss_one s_never) ss_nil)
      (ss_cons (s_fldNew (He.ga K "Row") [] T.row.cl (T.row.na _ (by simp)) (by decide) (by decide) (q_var 1) (q_var 0))
      (ss_cons (s_fldNew (He.ga K "Row") ["mode"] T.row.cl (T.row.na _ (by simp)) (by decide) (by decide) (q_var 2) (q_var 0))
      (ss_cons (s_fldNew (He.ga K "Row") ["mode", "pick"] T.row.cl (T.row.na _ (by simp)) (by decide) (by decide) (q_var 3) (q_var 0))
      (ss_cons (s_fldNew (He.ga K "Row") ["mode", "pick", "move"] T.row.cl (T.row.na _ (by simp)) (by decide) (by decide) (q_var 4) (q_var 0))
      (ss_one (s_fldNew (He.ga K "Row") ["mode", "pick", "move", "then"] T.row.cl (T.row.na _ (by simp)) (by decide) (by decide) (q_var 5) (q_var 0)))))))))))), ?_⟩
  rintro _ μ Φ ⟨p, r, rfl, hp, ⟨o1, o2, o3, o4⟩, h⟩
  have hk1 := T.picksK
  have hk2 := T.movesK
  (conv => whnf)
  refine ⟨r.mode, rfl, o1, ?_⟩
  (conv => whnf)
  refine ⟨fun z => (ft_ z).elim, fun _ => ?_⟩
  (conv => whnf)
  (split; rotate_left; (rename_i e_; exact nomatch ((hk1).symm.trans e_)); rename_i ts_ e_; cases ((hk1).symm.trans e_))
  (conv => whnf)
  refine ⟨r.pick, _, rfl, ?_⟩
  rw [decide_eq_true (p := r.pick ∈ _) o2]
  (conv => whnf)
  refine ⟨fun z => (ft_ z).elim, fun _ => ?_⟩
  (conv => whnf)
  (split; rotate_left; (rename_i e_; exact nomatch ((hk2).symm.trans e_)); rename_i ts_ e_; cases ((hk2).symm.trans e_))
  (conv => whnf)
  refine ⟨r.move, _, rfl, ?_⟩
  rw [decide_eq_true (p := r.move ∈ _) o3]
  (conv => whnf)
  refine ⟨fun z => (ft_ z).elim, fun _ => ?_⟩
  (conv => whnf)
  refine ⟨r.thn, rfl, o4, ?_⟩
  (conv => whnf)
  refine ⟨fun z => (ft_ z).elim, fun _ => ?_⟩
  (conv => whnf)
  refine ⟨"bool", true, rfl, rfl, ?_⟩
  (conv => whnf)
  refine ⟨fun z => (ft_ z).elim, fun _ => ?_⟩
  (conv => whnf)
  refine ⟨[], hp, ?_⟩
  (conv => whnf)
  refine ⟨_, mup_same, ?_⟩
  (conv => whnf)
  refine ⟨_, mup_same, ?_⟩
  (conv => whnf)
  refine ⟨_, mup_same, ?_⟩
  (conv => whnf)
  refine ⟨_, mup_same, ?_⟩
  (conv => whnf)
  refine ⟨_, fun _ _ e => e, h _ (fun a ha => ?_) mup_same⟩
  rw [mup_ne ha, mup_ne ha, mup_ne ha, mup_ne ha, mup_ne ha]
theorem sc_Row___eq__ : FnScope ["self", "other"] ["self", "other"] (defScope (inClass (top 50) 1)) := ⟨rfl, rfl, rfl, by decide +kernel, rfl, by decide +kernel, by decide +kernel⟩
theorem B_Row___eq__ (T : TF w K mg)  : ∀ {f : Addr} {cdv : Value} {A : Around} {outer : List Env} {s : Shared} {H : Hp} {E : XK}, Room 0 (A.deeper (envOfC "Row.__eq__" (defScope (inClass (top 50) 1)) s.heap.objs.size f cdv)) → ∃ ds, QSs (cxOf CX0 P w K mg base ["self", "other"] "Row.__eq__" (defScope (inClass (top 50) 1)) f cdv A outer s H E).nox (defBody (inClass (top 50) 1)) ds ∧ ∀ args μ Φ, ((fun xs μ Φ => ∃ L ds, xs = [.ob (He.ga K "Row") L ds, dN] ∧ Φ (dB false) μ) : DSp) args μ Φ → ds (endD μ Φ) (startD (["self", "other"] : List Str).length args) μ := by
  intro f cdv A outer s H E hr
  have nd := sc_Row___eq__.nd
  refine ⟨_, (ss_one (s_ret (q_and (q_cb call_isi (sim_isO _ T.rowI T.rowN) rfl (T.free "isinstance" (by simp)) (by decide +kernel) (a_cons (q_var 1) (a_cons (q_gR rfl T.row.g) a_nil))) (q_one (q_eq (q_cty SkE.call_str_str sim_str rfl (T.free "str" (by simp)) (by decide +kernel) (a_cons (q_var 0) a_nil)) (q_cty SkE.call_str_str sim_str rfl (T.free "str" (by simp)) (by decide +kernel) (a_cons (q_var 1) a_nil))))))), ?_⟩
  rintro _ μ Φ ⟨L, ds, rfl, h⟩
  (conv => whnf)
  refine ⟨rfl, ?_⟩
  (conv => whnf)
  refine ⟨fun z => (ft_ z).elim, fun _ => ?_⟩
  (conv => whnf)
  exact ⟨_, fun _ _ e => e, h⟩
end
end K3
set_option Elab.async false
set_option linter.all false
set_option maxRecDepth 100000
set_option maxHeartbeats 800000
set_option pp.maxSteps 600
/-! KG19: the law draws. -/
namespace K3
open PySem PySem.Spec PyProof.Rows L2
def boxO (a b : Int) : MO := .lst [dI a, dI b]
def S_choose : DSp := fun xs μ Φ => ∃ (l : Addr) (a b : Int) (many : Nat), xs = [dR l, dI (many : Int)] ∧ μ l = some (boxO a b) ∧ 0 < many ∧ many < 100000000 ∧ ∀ (k : Nat) (a' b' : Int), k < many → Φ (dI (k : Int)) (mup μ l (boxO a' b'))
def S_one_of : DSp := fun xs μ Φ => ∃ (l : Addr) (a b : Int) (ys : List D), xs = [dR l, .lst ys] ∧ μ l = some (boxO a b) ∧ ys ≠ [] ∧ ys.length < 100000000 ∧ ∀ (y : D) (a' b' : Int), y ∈ ys → Φ y (mup μ l (boxO a' b'))
theorem mod_nat {x : Int} {m : Nat} (h : 0 < m) : ∃ k : Nat, k < m ∧ x % (m : Int) = (k : Int) := by
  have h1 : 0 ≤ x % (m : Int) := Int.emod_nonneg _ (by omega)
  have h2 : x % (m : Int) < (m : Int) := Int.emod_lt_of_pos _ (by omega)
  exact ⟨(x % (m : Int)).toNat, by omega, by omega⟩
section
variable {P : Program} {w : World} {K : PySem.W.Frag} {mg : Str → Option Value} {base : Heap}
theorem sc__law_choose : FnScope ["_law_box", "_law_many", "_law_digit", "_law_first"] ["_law_box", "_law_many"] (defScope (top 57)) := ⟨rfl, rfl, rfl, by decide +kernel, rfl, by decide +kernel, by decide +kernel⟩
theorem G__law_choose (T : TF w K mg) (F : FnP K "_law_choose" "_law_choose" (top 57) (He.ga K "_law_choose")) (hm : mg "_law_choose" = some (.ref (He.ga K "_law_choose")))  : FnG P w K mg base "_law_choose" ["_law_box", "_law_many"] 1 (S_choose) := by
  refine fnG_of F hm sc__law_choose (fun _ _ _ _ _ _ us hl => match us, hl with | [_, _], _ => rfl) ?_ ?_
  · (intro ds μ Φ h; first | (obtain ⟨_, rfl, _⟩ := h; rfl) | (obtain ⟨_, _, rfl, _⟩ := h; rfl) | (obtain ⟨_, _, _, rfl, _⟩ := h; rfl) | (obtain ⟨_, _, _, _, rfl, _⟩ := h; rfl) | (obtain ⟨_, _, _, _, _, rfl, _⟩ := h; rfl) | (obtain ⟨_, _, _, _, _, _, rfl, _⟩ := h; rfl) | (obtain ⟨_, _, _, _, _, _, _, rfl, _⟩ := h; rfl) | (obtain ⟨_, _, _, _, _, _, _, _, rfl, _⟩ := h; rfl) | (obtain ⟨_, _, _, _, _, _, _, _, _, rfl, _⟩ := h; rfl) | (obtain ⟨_, _, _, _, _, _, _, _, _, _, rfl, _⟩ := h; rfl) | (obtain ⟨_, _, _, _, _, _, _, _, _, _, _, rfl, _⟩ := h; rfl) | (obtain ⟨_, _, _, _, _, _, _, _, _, _, _, _, rfl, _⟩ := h; rfl))
  intro f cdv A outer s H E hr
  have nd := sc__law_choose.nd
  refine ⟨_, (ss_cons (s_if (t_gt (q_ix (q_var 0) q_int) q_int) (ss_cons (s_set 2 nd (q_mod (q_cty call_int1 sim_int rfl (T.free "int" (by simp)) (by decide +kernel) (a_cons (q_ix (q_var 0) q_int) a_nil)) (q_var 1)))
      (ss_cons (s_asg (q_fdiv (q_ix (q_var 0) q_int) (q_var 1)) (g_lst (q_var 0) q_int))
      (ss_one (s_ret (q_var 2))))) ss_nil)
      (ss_cons (s_set 3 nd (q_mod (q_cty call_int1 sim_int rfl (T.free "int" (by simp)) (by decide +kernel) (a_cons (q_add (q_mul (q_ix (q_var 0) q_int) q_int) q_int) a_nil)) q_int))
      (ss_cons (s_asg (q_add (q_mod (q_cty call_int1 sim_int rfl (T.free "int" (by simp)) (by decide +kernel) (a_cons (q_add (q_mul (q_var 3) q_int) q_int) a_nil)) q_int) q_int) (g_lst (q_var 0) q_int))
      (ss_one (s_ret (q_mod (q_cty call_int1 sim_int rfl (T.free "int" (by simp)) (by decide +kernel) (a_cons (q_fdiv (q_add (q_mul (q_var 3) q_int) (q_ix (q_var 0) q_int)) q_int) a_nil)) (q_var 1))))))), ?_⟩
  clear hr nd F hm
  rintro _ μ Φ ⟨l, a, b, many, rfl, hl, hm, hm2, h⟩
  have hl : μ l = some (.lst [dI a, dI b]) := hl
  (conv => whnf)
  refine ⟨_, hl, ?_⟩
  (conv => whnf)
  refine ⟨fun hc => ?_, fun hc => ?_⟩
  · (conv => whnf)
    refine ⟨_, hl, ?_⟩
    (conv => whnf)
    refine ⟨by omega, ?_⟩
    (conv => whnf)
    refine ⟨_, hl, ?_⟩
    (conv => whnf)
    refine ⟨⟨by omega, by omega⟩, ?_⟩
    (conv => whnf)
    refine ⟨_, 0, hl, rfl, ?_⟩
    (conv => whnf)
    obtain ⟨k, hk, e⟩ := mod_nat (x := a) hm
    refine ⟨_, fun _ _ e => e, ?_⟩
    show Φ (dI (a % (many : Int))) _
    rw [e]
    exact h k _ _ hk
  · (conv => whnf)
    refine ⟨_, hl, ?_⟩
    (conv => whnf)
    refine ⟨.inr ⟨by decide, by decide⟩, ?_⟩
    (conv => whnf)
    refine ⟨show (0 : Int) < _ by decide, ?_⟩
    (conv => whnf)
    refine ⟨.inr ⟨by decide, by decide⟩, ?_⟩
    (conv => whnf)
    refine ⟨show (0 : Int) < _ by decide, ?_⟩
    (conv => whnf)
    refine ⟨_, 1, hl, rfl, ?_⟩
    (conv => whnf)
    refine ⟨.inr ⟨by decide, by decide⟩, ?_⟩
    (conv => whnf)
    refine ⟨_, mup_same, ?_⟩
    (conv => whnf)
    refine ⟨⟨by decide, by decide⟩, ?_⟩
    (conv => whnf)
    refine ⟨by omega, ?_⟩
    refine ⟨_, fun _ _ e => e, ?_⟩
    obtain ⟨k, hk, e⟩ := mod_nat (x := (b * 40014 + 17) % 2147483563 * 2147483647 + (((b * 40014 + 17) % 2147483563 * 40692 + 3067) % 2147483629 + 1)) hm
    obtain ⟨k, hk, e⟩ := mod_nat (x := ((b * 40014 + 17) % 2147483563 * 2147483647 + (((b * 40014 + 17) % 2147483563 * 40692 + 3067) % 2147483629 + 1)) / 8191) hm
    show Φ (dI ((((b * 40014 + 17) % 2147483563 * 2147483647 + (((b * 40014 + 17) % 2147483563 * 40692 + 3067) % 2147483629 + 1)) / 8191) % (many : Int))) _
    rw [e]
    exact h k _ _ hk
theorem sc__law_one_of : FnScope ["_law_box", "_law_some"] ["_law_box", "_law_some"] (defScope (top 58)) := ⟨rfl, rfl, rfl, by decide +kernel, rfl, by decide +kernel, by decide +kernel⟩
theorem G__law_one_of (T : TF w K mg) (F : FnP K "_law_one_of" "_law_one_of" (top 58) (He.ga K "_law_one_of")) (hm : mg "_law_one_of" = some (.ref (He.ga K "_law_one_of"))) (G__law_choose : FnG P w K mg base "_law_choose" ["_law_box", "_law_many"] 1 (S_choose)) : FnG P w K mg base "_law_one_of" ["_law_box", "_law_some"] 2 (S_one_of) := by
  refine fnG_of F hm sc__law_one_of (fun _ _ _ _ _ _ us hl => match us, hl with | [_, _], _ => rfl) ?_ ?_
  · (intro ds μ Φ h; first | (obtain ⟨_, rfl, _⟩ := h; rfl) | (obtain ⟨_, _, rfl, _⟩ := h; rfl) | (obtain ⟨_, _, _, rfl, _⟩ := h; rfl) | (obtain ⟨_, _, _, _, rfl, _⟩ := h; rfl) | (obtain ⟨_, _, _, _, _, rfl, _⟩ := h; rfl) | (obtain ⟨_, _, _, _, _, _, rfl, _⟩ := h; rfl) | (obtain ⟨_, _, _, _, _, _, _, rfl, _⟩ := h; rfl) | (obtain ⟨_, _, _, _, _, _, _, _, rfl, _⟩ := h; rfl) | (obtain ⟨_, _, _, _, _, _, _, _, _, rfl, _⟩ := h; rfl) | (obtain ⟨_, _, _, _, _, _, _, _, _, _, rfl, _⟩ := h; rfl) | (obtain ⟨_, _, _, _, _, _, _, _, _, _, _, rfl, _⟩ := h; rfl) | (obtain ⟨_, _, _, _, _, _, _, _, _, _, _, _, rfl, _⟩ := h; rfl))
  intro f cdv A outer s H E hr
  have nd := sc__law_one_of.nd
  refine ⟨_, (ss_one (s_ret (q_ix (q_var 1) (q_call G__law_choose (hr.mono (by decide)) rfl (a_cons (q_var 0) (a_cons (q_cb call_len_seq sim_len rfl (T.free "len" (by simp)) (by decide +kernel) (a_cons (q_var 1) a_nil)) a_nil)))))), ?_⟩
  clear hr nd F hm
  rintro _ μ Φ ⟨l, a, b, ys, rfl, hl, hne, hlen, h⟩
  (conv => whnf)
  refine ⟨l, a, b, ys.length, rfl, hl, List.length_pos_iff.mpr hne, hlen, fun k a' b' hk => ?_⟩
  have e1 : atI ys (k : Int) = some ys[k] := atI_nat (List.getElem?_eq_getElem hk)
  (conv => whnf)
  (split; rotate_left; (rename_i e_; exact nomatch ((e1).symm.trans e_)); rename_i ts_ e_; cases ((e1).symm.trans e_))
  refine ⟨_, fun _ _ e => e, h _ a' b' (List.getElem_mem hk)⟩
end
end K3
set_option Elab.async false
set_option linter.all false
set_option maxRecDepth 100000
set_option maxHeartbeats 800000
set_option pp.maxSteps 600
/-! KG20: names, any row. -/
namespace K3
open PySem PySem.Spec PyProof.Rows L2
def NamesOk (ns : List Str) : Prop := ns ≠ [] ∧ ns.length ≤ 4 ∧ ∀ x ∈ ns, nameOk x = true
def lrowD (r : RowM) : D := .tup [dS r.mode, dS r.pick, dS r.move, dS r.thn, dB r.also]
def S_names : DSp := fun xs μ Φ => ∃ (l : Addr) (a b : Int), xs = [dR l] ∧ μ l = some (boxO a b) ∧ ∀ (ns : List Str) (a' b' : Int), NamesOk ns → ns.length = 4 → Φ (.lst (ns.map dS)) (mup μ l (boxO a' b'))
def S_any_row : DSp := fun xs μ Φ => ∃ (l : Addr) (a b : Int) (ns : List Str), xs = [dR l, .lst (ns.map dS)] ∧ μ l = some (boxO a b) ∧ NamesOk ns ∧ ∀ (r : RowM) (a' b' : Int), RowOk r → Φ (lrowD r) (mup μ l (boxO a' b'))
section
variable {P : Program} {w : World} {K : PySem.W.Frag} {mg : Str → Option Value} {base : Heap}
theorem sc__law_names : FnScope ["_law_box", "_law_some"] ["_law_box"] (defScope (top 59)) := ⟨rfl, rfl, rfl, by decide +kernel, rfl, by decide +kernel, by decide +kernel⟩
theorem G__law_names (T : TF w K mg) (F : FnP K "_law_names" "_law_names" (top 59) (He.ga K "_law_names")) (hm : mg "_law_names" = some (.ref (He.ga K "_law_names"))) (G__law_one_of : FnG P w K mg base "_law_one_of" ["_law_box", "_law_some"] 2 (S_one_of)) : FnG P w K mg base "_law_names" ["_law_box"] 3 (S_names) := by
  refine fnG_of F hm sc__law_names (fun _ _ _ _ _ _ us hl => match us, hl with | [_], _ => rfl) ?_ ?_
  · (intro ds μ Φ h; first | (obtain ⟨_, rfl, _⟩ := h; rfl) | (obtain ⟨_, _, rfl, _⟩ := h; rfl) | (obtain ⟨_, _, _, rfl, _⟩ := h; rfl) | (obtain ⟨_, _, _, _, rfl, _⟩ := h; rfl) | (obtain ⟨_, _, _, _, _, rfl, _⟩ := h; rfl) | (obtain ⟨_, _, _, _, _, _, rfl, _⟩ := h; rfl) | (obtain ⟨_, _, _, _, _, _, _, rfl, _⟩ := h; rfl) | (obtain ⟨_, _, _, _, _, _, _, _, rfl, _⟩ := h; rfl) | (obtain ⟨_, _, _, _, _, _, _, _, _, rfl, _⟩ := h; rfl) | (obtain ⟨_, _, _, _, _, _, _, _, _, _, rfl, _⟩ := h; rfl) | (obtain ⟨_, _, _, _, _, _, _, _, _, _, _, rfl, _⟩ := h; rfl) | (obtain ⟨_, _, _, _, _, _, _, _, _, _, _, _, rfl, _⟩ := h; rfl))
  intro f cdv A outer s H E hr
  have nd := sc__law_names.nd
  refine ⟨_, (ss_cons (s_set 1 nd (q_lst (a_cons (q_lst (a_cons q_str (a_cons q_str (a_cons q_str (a_cons q_str a_nil))))) (a_cons (q_lst (a_cons q_str (a_cons q_str (a_cons q_str (a_cons q_str a_nil))))) (a_cons (q_lst (a_cons q_str (a_cons q_str (a_cons q_str (a_cons q_str a_nil))))) a_nil)))))
      (ss_one (s_ret (q_call G__law_one_of (hr.mono (by decide)) rfl (a_cons (q_var 0) (a_cons (q_op op_catL sim_cat2 (q_var 1) (q_lst (a_cons (q_lst (a_cons q_str (a_cons q_str (a_cons q_str (a_cons q_str a_nil))))) a_nil))) a_nil)))))), ?_⟩
  clear hr nd F hm
  rintro _ μ Φ ⟨l, a, b, rfl, hl, h⟩
  (conv => whnf)
  refine ⟨rfl, rfl, ?_⟩
  (conv => whnf)
  refine ⟨l, a, b, _, rfl, hl, (fun z => nomatch z), by show (4 : Nat) < 100000000; decide, fun y a' b' hy => ?_⟩
  refine ⟨_, fun _ _ e => e, ?_⟩
  have hy : y = .lst ((["run", "one", "two", "xyz"] : List Str).map dS) ∨ y = .lst ((["a", "aa", "ab", "b"] : List Str).map dS) ∨ y = .lst ((["at", "all", "on", "keep"] : List Str).map dS) ∨ y = .lst ((["zzzz", "q", "home", "stay"] : List Str).map dS) := by
    rcases List.mem_append.mp hy with z | z
    · rcases List.mem_cons.mp z with z | z
      · exact .inl z
      · rcases List.mem_cons.mp z with z | z
        · exact .inr (.inl z)
        · exact .inr (.inr (.inl (List.mem_singleton.mp z)))
    · exact .inr (.inr (.inr (List.mem_singleton.mp z)))
  rcases hy with rfl | rfl | rfl | rfl
  all_goals exact h _ a' b' ⟨by decide, by decide, by decide⟩ rfl
theorem sc__law_any_row : FnScope ["_law_box", "_law_names_here", "_law_pick", "_law_move"] ["_law_box", "_law_names_here"] (defScope (top 60)) := ⟨rfl, rfl, rfl, by decide +kernel, rfl, by decide +kernel, by decide +kernel⟩
theorem G__law_any_row (T : TF w K mg) (F : FnP K "_law_any_row" "_law_any_row" (top 60) (He.ga K "_law_any_row")) (hm : mg "_law_any_row" = some (.ref (He.ga K "_law_any_row"))) (G__law_choose : FnG P w K mg base "_law_choose" ["_law_box", "_law_many"] 1 (S_choose)) (G__law_one_of : FnG P w K mg base "_law_one_of" ["_law_box", "_law_some"] 2 (S_one_of)) : FnG P w K mg base "_law_any_row" ["_law_box", "_law_names_here"] 3 (S_any_row) := by
  refine fnG_of F hm sc__law_any_row (fun _ _ _ _ _ _ us hl => match us, hl with | [_, _], _ => rfl) ?_ ?_
  · (intro ds μ Φ h; first | (obtain ⟨_, rfl, _⟩ := h; rfl) | (obtain ⟨_, _, rfl, _⟩ := h; rfl) | (obtain ⟨_, _, _, rfl, _⟩ := h; rfl) | (obtain ⟨_, _, _, _, rfl, _⟩ := h; rfl) | (obtain ⟨_, _, _, _, _, rfl, _⟩ := h; rfl) | (obtain ⟨_, _, _, _, _, _, rfl, _⟩ := h; rfl) | (obtain ⟨_, _, _, _, _, _, _, rfl, _⟩ := h; rfl) | (obtain ⟨_, _, _, _, _, _, _, _, rfl, _⟩ := h; rfl) | (obtain ⟨_, _, _, _, _, _, _, _, _, rfl, _⟩ := h; rfl) | (obtain ⟨_, _, _, _, _, _, _, _, _, _, rfl, _⟩ := h; rfl) | (obtain ⟨_, _, _, _, _, _, _, _, _, _, _, rfl, _⟩ := h; rfl) | (obtain ⟨_, _, _, _, _, _, _, _, _, _, _, _, rfl, _⟩ := h; rfl))
  intro f cdv A outer s H E hr
  have nd := sc__law_any_row.nd
  refine ⟨_, (ss_cons (s_set 2 nd (q_call G__law_one_of (hr.mono (by decide)) rfl (a_cons (q_var 0) (a_cons (q_lst (a_cons q_str (a_cons q_str (a_cons q_str (a_cons q_str (a_cons q_str (a_cons q_str (a_cons q_str a_nil)))))))) a_nil))))
      (ss_cons (s_set 3 nd (q_call G__law_one_of (hr.mono (by decide)) rfl (a_cons (q_var 0) (a_cons (q_lst (a_cons q_str (a_cons q_str (a_cons q_str (a_cons q_str (a_cons q_str a_nil)))))) a_nil))))
      (ss_one (s_ret (q_tup (a_cons (q_call G__law_one_of (hr.mono (by decide)) rfl (a_cons (q_var 0) (a_cons (q_var 1) a_nil))) (a_cons (q_var 2) (a_cons (q_var 3) (a_cons (q_call G__law_one_of (hr.mono (by decide)) rfl (a_cons (q_var 0) (a_cons (q_var 1) a_nil))) (a_cons (q_eq (q_call G__law_choose (hr.mono (by decide)) rfl (a_cons (q_var 0) (a_cons q_int a_nil))) q_int) a_nil)))))))))), ?_⟩
  clear hr nd F hm
  rintro _ μ Φ ⟨l, a, b, ns, rfl, hl, ⟨hne, hlen, hn⟩, h⟩
  have hmn : ∀ y, y ∈ ns.map dS → ∃ x, x ∈ ns ∧ y = dS x := fun y hy => by
    obtain ⟨x, h1, rfl⟩ := List.mem_map.mp hy
    exact ⟨x, h1, rfl⟩
  (conv => whnf)
  refine ⟨l, a, b, _, rfl, hl, (fun z => nomatch z), by show (7 : Nat) < 100000000; decide, fun y1 a1 b1 hy1 => ?_⟩
  have hy1 : ∃ x ∈ picksL, y1 = dS x := by
    have : ∀ q ∈ (["keep", "at", "past", "under", "all", "past", "all"] : List Str), q ∈ picksL := by decide
    obtain ⟨x, h1, rfl⟩ := List.mem_map.mp (show y1 ∈ (["keep", "at", "past", "under", "all", "past", "all"] : List Str).map dS from hy1)
    exact ⟨x, this x h1, rfl⟩
  obtain ⟨pick, hp, rfl⟩ := hy1
  (conv => whnf)
  refine ⟨l, a1, b1, _, rfl, mup_same, (fun z => nomatch z), by show (5 : Nat) < 100000000; decide, fun y2 a2 b2 hy2 => ?_⟩
  have hy2 : ∃ x ∈ movesL, y2 = dS x := by
    have : ∀ q ∈ (["stay", "on", "home", "on", "on"] : List Str), q ∈ movesL := by decide
    obtain ⟨x, h1, rfl⟩ := List.mem_map.mp (show y2 ∈ (["stay", "on", "home", "on", "on"] : List Str).map dS from hy2)
    exact ⟨x, this x h1, rfl⟩
  obtain ⟨move, hm, rfl⟩ := hy2
  rw [mup_mup]
  (conv => whnf)
  refine ⟨l, a2, b2, _, rfl, mup_same, fun z => hne (List.map_eq_nil_iff.mp z), by rw [List.length_map]; omega, fun y3 a3 b3 hy3 => ?_⟩
  obtain ⟨mode, hmode, rfl⟩ := hmn y3 hy3
  rw [mup_mup]
  (conv => whnf)
  refine ⟨l, a3, b3, _, rfl, mup_same, fun z => hne (List.map_eq_nil_iff.mp z), by rw [List.length_map]; omega, fun y4 a4 b4 hy4 => ?_⟩
  obtain ⟨thn, hthn, rfl⟩ := hmn y4 hy4
  rw [mup_mup]
  (conv => whnf)
  refine ⟨l, a4, b4, 7, rfl, mup_same, by decide, by decide, fun k a5 b5 hk => ?_⟩
  rw [mup_mup]
  (conv => whnf)
  refine ⟨rfl, ?_⟩
  (conv => whnf)
  exact ⟨_, fun _ _ e => e, h ⟨mode, pick, move, thn, decide (V.int (k : Int) = V.int 0)⟩ a5 b5 ⟨hn mode hmode, hp, hm, hn thn hthn⟩⟩
end
end K3
set_option Elab.async false
set_option linter.all false
set_option maxRecDepth 100000
set_option maxHeartbeats 800000
set_option pp.maxSteps 600
/-! KG21: fair rows. -/
namespace K3
open PySem PySem.Spec PyProof.Rows L2
def S_fair : DSp := fun xs μ Φ => ∃ (l : Addr) (a b : Int) (ns : List Str), xs = [dR l, .lst (ns.map dS)] ∧ μ l = some (boxO a b) ∧ NamesOk ns ∧ ∀ (rows : List RowM) (a' b' : Int), (∀ r ∈ rows, RowOk r) → rows.length ≤ 12 → Φ (.lst (rows.map lrowD)) (mup μ l (boxO a' b'))
theorem app_row {rows : List RowM} {r : RowM} : (rows ++ [r]).map lrowD = rows.map lrowD ++ [lrowD r] := by rw [List.map_append] <;> rfl
theorem ok_app {rows : List RowM} {r : RowM} (h : ∀ q ∈ rows, RowOk q) (hr : RowOk r) : ∀ q ∈ rows ++ [r], RowOk q := fun q hq => by
  rcases List.mem_append.mp hq with z | z
  · exact h q z
  · rw [List.mem_singleton.mp z]; exact hr
section
variable {P : Program} {w : World} {K : PySem.W.Frag} {mg : Str → Option Value} {base : Heap}
theorem sc__law_fair_rows : FnScope ["_law_box", "_law_names_here", "_law_found", "_law_at", "_law_name", "_law_later", "_law_form"] ["_law_box", "_law_names_here"] (defScope (top 61)) := ⟨rfl, rfl, rfl, by decide +kernel, rfl, by decide +kernel, by decide +kernel⟩
theorem G__law_fair_rows (T : TF w K mg) (F : FnP K "_law_fair_rows" "_law_fair_rows" (top 61) (He.ga K "_law_fair_rows")) (hm : mg "_law_fair_rows" = some (.ref (He.ga K "_law_fair_rows"))) (G__law_choose : FnG P w K mg base "_law_choose" ["_law_box", "_law_many"] 1 (S_choose)) (G__law_one_of : FnG P w K mg base "_law_one_of" ["_law_box", "_law_some"] 2 (S_one_of)) : FnG P w K mg base "_law_fair_rows" ["_law_box", "_law_names_here"] 3 (S_fair) := by
  refine fnG_of F hm sc__law_fair_rows (fun _ _ _ _ _ _ us hl => match us, hl with | [_, _], _ => rfl) ?_ ?_
  · (intro ds μ Φ h; first | (obtain ⟨_, rfl, _⟩ := h; rfl) | (obtain ⟨_, _, rfl, _⟩ := h; rfl) | (obtain ⟨_, _, _, rfl, _⟩ := h; rfl) | (obtain ⟨_, _, _, _, rfl, _⟩ := h; rfl) | (obtain ⟨_, _, _, _, _, rfl, _⟩ := h; rfl) | (obtain ⟨_, _, _, _, _, _, rfl, _⟩ := h; rfl) | (obtain ⟨_, _, _, _, _, _, _, rfl, _⟩ := h; rfl) | (obtain ⟨_, _, _, _, _, _, _, _, rfl, _⟩ := h; rfl) | (obtain ⟨_, _, _, _, _, _, _, _, _, rfl, _⟩ := h; rfl) | (obtain ⟨_, _, _, _, _, _, _, _, _, _, rfl, _⟩ := h; rfl) | (obtain ⟨_, _, _, _, _, _, _, _, _, _, _, rfl, _⟩ := h; rfl) | (obtain ⟨_, _, _, _, _, _, _, _, _, _, _, _, rfl, _⟩ := h; rfl))
  intro f cdv A outer s H E hr
  have nd := sc__law_fair_rows.nd
  refine ⟨_, (ss_cons (s_set 2 nd (q_lstM a_nil))
      (ss_cons (s_for PassesOwn.never rfl (i_enumL rfl (T.free "enumerate" (by simp)) (a_cons (q_var 1) a_nil)) (g_tup rfl (gs_cons (g_name (i := 3) nd rfl (.inl rfl)) (gs_cons (g_name (i := 4) nd rfl (.inl rfl)) gs_nil))) (ss_cons (s_set 5 nd (q_ix (q_var 1) (q_mod (q_add (q_var 3) q_int) (q_cb call_len_seq sim_len rfl (T.free "len" (by simp)) (by decide +kernel) (a_cons (q_var 1) a_nil)))))
      (ss_cons (s_set 6 nd (q_call G__law_choose (hr.mono (by decide)) rfl (a_cons (q_var 0) (a_cons q_int a_nil))))
      (ss_cons (s_if (t_eq (q_var 6) q_int) (ss_one (s_expr (q_lm PySem.F.plainAttrs_list PySem.F.slot_list_append PySem.F.type_list_append mt_append simLm_app lmApp_mono (q_var 2) (a_cons (q_tup (a_cons (q_var 4) (a_cons q_str (a_cons q_str (a_cons (q_var 5) (a_cons q_bl a_nil)))))) a_nil)))) (ss_one (s_if (t_eq (q_var 6) q_int) (ss_one (s_expr (q_lm PySem.F.plainAttrs_list PySem.F.slot_list_append PySem.F.type_list_append mt_append simLm_app lmApp_mono (q_var 2) (a_cons (q_tup (a_cons (q_var 4) (a_cons q_str (a_cons q_str (a_cons (q_var 5) (a_cons q_bl a_nil)))))) a_nil)))) ss_nil)))
      (ss_cons (s_expr (q_lm PySem.F.plainAttrs_list PySem.F.slot_list_append PySem.F.type_list_append mt_append simLm_app lmApp_mono (q_var 2) (a_cons (q_tup (a_cons (q_var 4) (a_cons q_str (a_cons q_str (a_cons (q_call G__law_one_of (hr.mono (by decide)) rfl (a_cons (q_var 0) (a_cons (q_lst (a_cons (q_ix (q_var 1) q_int) (a_cons (q_var 4) (a_cons (q_var 5) a_nil)))) a_nil))) (a_cons q_bl a_nil)))))) a_nil)))
      (ss_one (s_if (t_gt (q_call G__law_choose (hr.mono (by decide)) rfl (a_cons (q_var 0) (a_cons q_int a_nil))) q_int) (ss_one (s_expr (q_lm PySem.F.plainAttrs_list PySem.F.slot_list_append PySem.F.type_list_append mt_append simLm_app lmApp_mono (q_var 2) (a_cons (q_tup (a_cons (q_var 4) (a_cons q_str (a_cons (q_call G__law_one_of (hr.mono (by decide)) rfl (a_cons (q_var 0) (a_cons (q_lst (a_cons q_str (a_cons q_str (a_cons q_str (a_cons q_str a_nil))))) a_nil))) (a_cons (q_ix (q_var 1) q_int) (a_cons q_bl a_nil)))))) a_nil)))) ss_nil)))))))
      (ss_one (s_retF (q_var 2))))), ?_⟩
  clear hr nd F hm
  rintro _ μ Φ ⟨l, a, b, ns, rfl, hl, ⟨hne, hlen, hn⟩, h⟩
  (conv => whnf)
  intro f hf
  have nlf : l ≠ f := fun z => by rw [← z, hl] at hf; cases hf
  (conv => whnf)
  refine ⟨fun i ρ μ' => ∃ rows a b, (∀ r ∈ rows, RowOk r) ∧ (rows : List RowM).length ≤ 3 * i ∧ μ' f = some (.lst (rows.map lrowD)) ∧ μ' l = some (boxO a b) ∧ (∀ p, p ≠ f → p ≠ l → μ' p = μ p) ∧ ∃ d3 d4 d5 d6, ρ = [some (dR l), some (.lst (ns.map dS)), some (dR f), d3, d4, d5, d6],
    ⟨[], a, b, (fun r hr => nomatch hr), Nat.le_refl 0, mup_same, (mup_ne nlf).trans hl, fun p h1 h2 => mup_ne h1, _, _, _, _, rfl⟩, ?_, ?_⟩
  · rintro i x ρ μ1 hx ⟨rows, a1, b1, hrows, hrl, hff, hll, hoth, d3, d4, d5, d6, rfl⟩
    obtain ⟨nm, hnm, rfl⟩ := enum_get hx
    have hi := (List.getElem?_eq_some_iff.mp hnm).1
    have hnm1 := hn nm (List.mem_of_getElem? hnm)
    obtain ⟨k, hk, ek⟩ := mod_nat (x := (i : Int) + 1) (m := ns.length) (by omega)
    have e1 : atI (ns.map dS) (((i : Int) + 1) % ((ns.map dS).length : Int)) = some (dS ns[k]) := by
      rw [List.length_map, ek]
      exact atI_nat (by rw [List.getElem?_map, List.getElem?_eq_getElem hk] <;> rfl)
    have hlat := hn _ (List.getElem_mem hk)
    have pk1 : ("keep" : Str) ∈ picksL := by decide
    have pk2 : ("at" : Str) ∈ picksL := by decide
    have pk3 : ("past" : Str) ∈ picksL := by decide
    have pk4 : ("all" : Str) ∈ picksL := by decide
    have mv1 : ("stay" : Str) ∈ movesL := by decide
    have mv2 : ("on" : Str) ∈ movesL := by decide
    have e0 : atI (ns.map dS) (0 : Int) = some (dS (ns[0]'(by omega))) := atI_nat (i := 0) (by rw [List.getElem?_map, List.getElem?_eq_getElem (by omega)] <;> rfl)
    have h0 := hn _ (List.getElem_mem (l := ns) (n := 0) (by omega))
    (conv => whnf)
    refine ⟨by rw [List.length_map]; omega, ?_⟩
    (conv => whnf)
    (split; rotate_left; (rename_i e_; exact nomatch ((e1).symm.trans e_)); rename_i ts_ e_; cases ((e1).symm.trans e_))
    (conv => whnf)
    refine ⟨l, a1, b1, 5, rfl, hll, by decide, by decide, fun k2 a2 b2 hk2 => ?_⟩
    have hll1 : mup μ1 l (boxO a2 b2) l = some (boxO a2 b2) := mup_same
    have hff1 : mup μ1 l (boxO a2 b2) f = some (.lst (rows.map lrowD)) := (mup_ne nlf.symm).trans hff
    have hoth1 : ∀ p, p ≠ f → p ≠ l → mup μ1 l (boxO a2 b2) p = μ p := fun p h1 h2 => (mup_ne h2).trans (hoth p h1 h2)
    (conv => whnf)
    refine ⟨rfl, fun hc => ?_, fun hc => ?_⟩
    · skip
      (conv => whnf)
      refine ⟨⟨_, hff1⟩, ?_⟩
      (conv => whnf)
      refine ⟨_, hff1, ?_⟩
      (conv => whnf)
      refine lenOk.mk (by simp; omega) ?_
      (conv => whnf)
      have hll2 := (mup_ne (o := MO.lst (rows.map lrowD ++ [lrowD (⟨nm, "keep", "stay", ns[k], false⟩ : RowM)])) nlf).trans hll1
      have hff2 : mup (mup μ1 l (boxO a2 b2)) f (MO.lst (rows.map lrowD ++ [lrowD (⟨nm, "keep", "stay", ns[k], false⟩ : RowM)])) f = some (.lst ((rows ++ [(⟨nm, "keep", "stay", ns[k], false⟩ : RowM)]).map lrowD)) := by rw [mup_same, app_row]
      have hoth2 : ∀ p, p ≠ f → p ≠ l → mup (mup μ1 l (boxO a2 b2)) f (MO.lst (rows.map lrowD ++ [lrowD (⟨nm, "keep", "stay", ns[k], false⟩ : RowM)])) p = μ p := fun p h1 h2 => (mup_ne h1).trans (hoth1 p h1 h2)
      have hr2 : ∀ r ∈ rows ++ [(⟨nm, "keep", "stay", ns[k], false⟩ : RowM)], RowOk r := ok_app hrows ⟨hnm1, pk1, mv1, hlat⟩
      refine ⟨⟨_, hff2⟩, ?_⟩
      (conv => whnf)
      (split; rotate_left; (rename_i e_; exact nomatch ((e0).symm.trans e_)); rename_i ts_ e_; cases ((e0).symm.trans e_))
      (conv => whnf)
      refine ⟨l, a2, b2, _, rfl, hll2, (fun z => nomatch z), by show (3 : Nat) < 100000000; decide, fun y a3 b3 hy => ?_⟩
      obtain ⟨z, hz, rfl⟩ : ∃ z, nameOk z = true ∧ y = dS z := by
        rcases List.mem_cons.mp hy with q | q
        · exact ⟨_, h0, q⟩
        · rcases List.mem_cons.mp q with q | q
          · exact ⟨_, hnm1, q⟩
          · exact ⟨_, hlat, List.mem_singleton.mp q⟩
      (conv => whnf)
      refine ⟨_, (mup_ne nlf.symm).trans hff2, ?_⟩
      (conv => whnf)
      refine lenOk.mk (by simp; omega) ?_
      (conv => whnf)
      refine ⟨l, a3, b3, 6, rfl, (mup_ne nlf).trans mup_same, by decide, by decide, fun k3 a4 b4 hk3 => ?_⟩
      (conv => whnf)
      have r1 : RowOk ⟨nm, "past", "on", z, false⟩ := ⟨hnm1, pk3, mv2, hz⟩
      refine ⟨fun hc => ?_, fun hc => ?_⟩
      · (conv => whnf)
        refine ⟨⟨_, (mup_ne nlf.symm).trans mup_same⟩, ?_⟩
        (conv => whnf)
        refine ⟨l, a4, b4, _, rfl, mup_same, (fun z => nomatch z), by show (4 : Nat) < 100000000; decide, fun y a5 b5 hy => ?_⟩
        obtain ⟨mv, hmv, rfl⟩ : ∃ x, x ∈ movesL ∧ y = dS x := by
          have : ∀ q ∈ (["on", "on", "on", "home"] : List Str), q ∈ movesL := by decide
          obtain ⟨x, h1, rfl⟩ := List.mem_map.mp (show y ∈ (["on", "on", "on", "home"] : List Str).map dS from hy)
          exact ⟨x, this x h1, rfl⟩
        (conv => whnf)
        (split; rotate_left; (rename_i e_; exact nomatch ((e0).symm.trans e_)); rename_i ts_ e_; cases ((e0).symm.trans e_))
        (conv => whnf)
        refine ⟨_, (mup_ne nlf.symm).trans ((mup_ne nlf.symm).trans mup_same), ?_⟩
        (conv => whnf)
        refine lenOk.mk (by simp; omega) ?_
        refine ⟨(rows ++ [(⟨nm, "keep", "stay", ns[k], false⟩ : RowM)]) ++ [⟨nm, "past", "on", z, false⟩] ++ [⟨nm, "all", mv, ns[0]'(by omega), false⟩], a5, b5, ok_app (ok_app hr2 r1) ⟨hnm1, pk4, hmv, h0⟩, by simp; omega, ?_, (mup_ne nlf).trans mup_same, fun p h1 h2 => ?_, _, _, _, _, rfl⟩
        · rw [mup_same]; simp only [app_row]; rfl
        · rw [mup_ne h1, mup_ne h2, mup_ne h2, mup_ne h1, mup_ne h2]; exact hoth2 p h1 h2
      · (conv => whnf)
        refine ⟨(rows ++ [(⟨nm, "keep", "stay", ns[k], false⟩ : RowM)]) ++ [⟨nm, "past", "on", z, false⟩], a4, b4, ok_app hr2 r1, by simp; omega, ?_, mup_same, fun p h1 h2 => ?_, _, _, _, _, rfl⟩
        · rw [mup_ne nlf.symm, mup_same]; simp only [app_row]; rfl
        · rw [mup_ne h2, mup_ne h1, mup_ne h2]; exact hoth2 p h1 h2
    · (conv => whnf)
      refine ⟨rfl, fun hc => ?_, fun hc => ?_⟩
      · skip
        (conv => whnf)
        refine ⟨⟨_, hff1⟩, ?_⟩
        (conv => whnf)
        refine ⟨_, hff1, ?_⟩
        (conv => whnf)
        refine lenOk.mk (by simp; omega) ?_
        (conv => whnf)
        have hll2 := (mup_ne (o := MO.lst (rows.map lrowD ++ [lrowD (⟨nm, "at", "on", ns[k], false⟩ : RowM)])) nlf).trans hll1
        have hff2 : mup (mup μ1 l (boxO a2 b2)) f (MO.lst (rows.map lrowD ++ [lrowD (⟨nm, "at", "on", ns[k], false⟩ : RowM)])) f = some (.lst ((rows ++ [(⟨nm, "at", "on", ns[k], false⟩ : RowM)]).map lrowD)) := by rw [mup_same, app_row]
        have hoth2 : ∀ p, p ≠ f → p ≠ l → mup (mup μ1 l (boxO a2 b2)) f (MO.lst (rows.map lrowD ++ [lrowD (⟨nm, "at", "on", ns[k], false⟩ : RowM)])) p = μ p := fun p h1 h2 => (mup_ne h1).trans (hoth1 p h1 h2)
        have hr2 : ∀ r ∈ rows ++ [(⟨nm, "at", "on", ns[k], false⟩ : RowM)], RowOk r := ok_app hrows ⟨hnm1, pk2, mv2, hlat⟩
        refine ⟨⟨_, hff2⟩, ?_⟩
        (conv => whnf)
        (split; rotate_left; (rename_i e_; exact nomatch ((e0).symm.trans e_)); rename_i ts_ e_; cases ((e0).symm.trans e_))
        (conv => whnf)
        refine ⟨l, a2, b2, _, rfl, hll2, (fun z => nomatch z), by show (3 : Nat) < 100000000; decide, fun y a3 b3 hy => ?_⟩
        obtain ⟨z, hz, rfl⟩ : ∃ z, nameOk z = true ∧ y = dS z := by
          rcases List.mem_cons.mp hy with q | q
          · exact ⟨_, h0, q⟩
          · rcases List.mem_cons.mp q with q | q
            · exact ⟨_, hnm1, q⟩
            · exact ⟨_, hlat, List.mem_singleton.mp q⟩
        (conv => whnf)
        refine ⟨_, (mup_ne nlf.symm).trans hff2, ?_⟩
        (conv => whnf)
        refine lenOk.mk (by simp; omega) ?_
        (conv => whnf)
        refine ⟨l, a3, b3, 6, rfl, (mup_ne nlf).trans mup_same, by decide, by decide, fun k3 a4 b4 hk3 => ?_⟩
        (conv => whnf)
        have r1 : RowOk ⟨nm, "past", "on", z, false⟩ := ⟨hnm1, pk3, mv2, hz⟩
        refine ⟨fun hc => ?_, fun hc => ?_⟩
        · (conv => whnf)
          refine ⟨⟨_, (mup_ne nlf.symm).trans mup_same⟩, ?_⟩
          (conv => whnf)
          refine ⟨l, a4, b4, _, rfl, mup_same, (fun z => nomatch z), by show (4 : Nat) < 100000000; decide, fun y a5 b5 hy => ?_⟩
          obtain ⟨mv, hmv, rfl⟩ : ∃ x, x ∈ movesL ∧ y = dS x := by
            have : ∀ q ∈ (["on", "on", "on", "home"] : List Str), q ∈ movesL := by decide
            obtain ⟨x, h1, rfl⟩ := List.mem_map.mp (show y ∈ (["on", "on", "on", "home"] : List Str).map dS from hy)
            exact ⟨x, this x h1, rfl⟩
          (conv => whnf)
          (split; rotate_left; (rename_i e_; exact nomatch ((e0).symm.trans e_)); rename_i ts_ e_; cases ((e0).symm.trans e_))
          (conv => whnf)
          refine ⟨_, (mup_ne nlf.symm).trans ((mup_ne nlf.symm).trans mup_same), ?_⟩
          (conv => whnf)
          refine lenOk.mk (by simp; omega) ?_
          refine ⟨(rows ++ [(⟨nm, "at", "on", ns[k], false⟩ : RowM)]) ++ [⟨nm, "past", "on", z, false⟩] ++ [⟨nm, "all", mv, ns[0]'(by omega), false⟩], a5, b5, ok_app (ok_app hr2 r1) ⟨hnm1, pk4, hmv, h0⟩, by simp; omega, ?_, (mup_ne nlf).trans mup_same, fun p h1 h2 => ?_, _, _, _, _, rfl⟩
          · rw [mup_same]; simp only [app_row]; rfl
          · rw [mup_ne h1, mup_ne h2, mup_ne h2, mup_ne h1, mup_ne h2]; exact hoth2 p h1 h2
        · (conv => whnf)
          refine ⟨(rows ++ [(⟨nm, "at", "on", ns[k], false⟩ : RowM)]) ++ [⟨nm, "past", "on", z, false⟩], a4, b4, ok_app hr2 r1, by simp; omega, ?_, mup_same, fun p h1 h2 => ?_, _, _, _, _, rfl⟩
          · rw [mup_ne nlf.symm, mup_same]; simp only [app_row]; rfl
          · rw [mup_ne h2, mup_ne h1, mup_ne h2]; exact hoth2 p h1 h2
      · (conv => whnf)
        have hll2 := hll1
        have hff2 := hff1
        have hoth2 := hoth1
        refine ⟨⟨_, hff2⟩, ?_⟩
        (conv => whnf)
        (split; rotate_left; (rename_i e_; exact nomatch ((e0).symm.trans e_)); rename_i ts_ e_; cases ((e0).symm.trans e_))
        (conv => whnf)
        refine ⟨l, a2, b2, _, rfl, hll2, (fun z => nomatch z), by show (3 : Nat) < 100000000; decide, fun y a3 b3 hy => ?_⟩
        obtain ⟨z, hz, rfl⟩ : ∃ z, nameOk z = true ∧ y = dS z := by
          rcases List.mem_cons.mp hy with q | q
          · exact ⟨_, h0, q⟩
          · rcases List.mem_cons.mp q with q | q
            · exact ⟨_, hnm1, q⟩
            · exact ⟨_, hlat, List.mem_singleton.mp q⟩
        (conv => whnf)
        refine ⟨_, (mup_ne nlf.symm).trans hff2, ?_⟩
        (conv => whnf)
        refine lenOk.mk (by simp; omega) ?_
        (conv => whnf)
        refine ⟨l, a3, b3, 6, rfl, (mup_ne nlf).trans mup_same, by decide, by decide, fun k3 a4 b4 hk3 => ?_⟩
        (conv => whnf)
        have r1 : RowOk ⟨nm, "past", "on", z, false⟩ := ⟨hnm1, pk3, mv2, hz⟩
        refine ⟨fun hc => ?_, fun hc => ?_⟩
        · (conv => whnf)
          refine ⟨⟨_, (mup_ne nlf.symm).trans mup_same⟩, ?_⟩
          (conv => whnf)
          refine ⟨l, a4, b4, _, rfl, mup_same, (fun z => nomatch z), by show (4 : Nat) < 100000000; decide, fun y a5 b5 hy => ?_⟩
          obtain ⟨mv, hmv, rfl⟩ : ∃ x, x ∈ movesL ∧ y = dS x := by
            have : ∀ q ∈ (["on", "on", "on", "home"] : List Str), q ∈ movesL := by decide
            obtain ⟨x, h1, rfl⟩ := List.mem_map.mp (show y ∈ (["on", "on", "on", "home"] : List Str).map dS from hy)
            exact ⟨x, this x h1, rfl⟩
          (conv => whnf)
          (split; rotate_left; (rename_i e_; exact nomatch ((e0).symm.trans e_)); rename_i ts_ e_; cases ((e0).symm.trans e_))
          (conv => whnf)
          refine ⟨_, (mup_ne nlf.symm).trans ((mup_ne nlf.symm).trans mup_same), ?_⟩
          (conv => whnf)
          refine lenOk.mk (by simp; omega) ?_
          refine ⟨rows ++ [⟨nm, "past", "on", z, false⟩] ++ [⟨nm, "all", mv, ns[0]'(by omega), false⟩], a5, b5, ok_app (ok_app hrows r1) ⟨hnm1, pk4, hmv, h0⟩, by simp; omega, ?_, (mup_ne nlf).trans mup_same, fun p h1 h2 => ?_, _, _, _, _, rfl⟩
          · rw [mup_same]; simp only [app_row]; rfl
          · rw [mup_ne h1, mup_ne h2, mup_ne h2, mup_ne h1, mup_ne h2]; exact hoth2 p h1 h2
        · (conv => whnf)
          refine ⟨rows ++ [⟨nm, "past", "on", z, false⟩], a4, b4, ok_app hrows r1, by simp; omega, ?_, mup_same, fun p h1 h2 => ?_, _, _, _, _, rfl⟩
          · rw [mup_ne nlf.symm, mup_same]; simp only [app_row]; rfl
          · rw [mup_ne h2, mup_ne h1, mup_ne h2]; exact hoth2 p h1 h2
  · rintro ρ μ1 ⟨rows, a1, b1, hrows, hrl, hff, hll, hoth, d3, d4, d5, d6, rfl⟩
    rw [enumD_len, List.length_map] at hrl
    (conv => whnf)
    refine ⟨f, _, rfl, hff, hf, mup μ l (boxO a1 b1), fun p o e => ?_, h rows a1 b1 hrows (by omega)⟩
    by_cases n1 : p = l
    · subst n1
      rw [mup_same] at e
      rw [mdel_ne nlf, hll]; exact e
    · rw [mup_ne n1] at e
      have n2 : p ≠ f := fun z => by rw [z, hf] at e; cases e
      rw [mdel_ne n2, hoth p n2 n1]; exact e
end
end K3
set_option Elab.async false
set_option linter.all false
set_option maxRecDepth 100000
set_option maxHeartbeats 800000
set_option pp.maxSteps 600
/-! KG22: the rule that is drawn. -/
namespace K3
open PySem PySem.Spec PyProof.Rows L2
theorem cut_map {α : Type} {f : α → D} {xs : List α} {lo hi : Option Int} : ∃ ys : List α, cutD (xs.map f) lo hi = ys.map f ∧ (∀ y ∈ ys, y ∈ xs) ∧ ys.length ≤ xs.length := by
  refine ⟨(xs.drop (HT.sIx xs.length 0 lo)).take (HT.sIx xs.length xs.length hi - HT.sIx xs.length 0 lo), ?_, fun y hy => List.mem_of_mem_drop (List.mem_of_mem_take hy), ?_⟩
  · unfold cutD
    rw [List.length_map, List.map_take, List.map_drop]
  · rw [List.length_take, List.length_drop]; omega
theorem cut_names {ns : List Str} (h : NamesOk ns) (hl : ns.length = 4) {k : Nat} (hk : k < 4) : ∃ ns', NamesOk ns' ∧ cutD (ns.map dS) none (some (1 + (k : Int))) = ns'.map dS := by
  obtain ⟨h1, h2, h3⟩ := h
  match ns, hl with
  | [a, b, c, d], _ =>
    match k, hk with
    | 0, _ => exact ⟨[a], ⟨by simp, by simp, fun x hx => h3 x (by simp at hx ⊢; simp [hx])⟩, rfl⟩
    | 1, _ => exact ⟨[a, b], ⟨by simp, by simp, fun x hx => h3 x (by simp at hx ⊢; rcases hx with rfl | rfl <;> simp)⟩, rfl⟩
    | 2, _ => exact ⟨[a, b, c], ⟨by simp, by simp, fun x hx => h3 x (by simp at hx ⊢; rcases hx with rfl | rfl | rfl <;> simp)⟩, rfl⟩
    | 3, _ => exact ⟨[a, b, c, d], ⟨by simp, by simp, h3⟩, rfl⟩
theorem cut_pre {α : Type} {f : α → D} {xs : List α} {m : Nat} : cutD (xs.map f) none (some (m : Int)) = (xs.take m).map f := by
  unfold cutD
  rw [HT.sIx_none, HT.sIx_nat, List.drop_zero, Nat.sub_zero, List.length_map, List.map_take, List.take_eq_take_iff]
  simp
def S_rule : DSp := fun xs μ Φ => ∃ (l : Addr) (a b : Int) (m : Nat), xs = [dR l, dI (m : Int)] ∧ μ l = some (boxO a b) ∧ m < 1000 ∧ ∀ (R : RuleM) (a' b' : Int), nameOk R.first = true → (∀ r ∈ R.rows, RowOk r) → R.rows.length ≤ m → Φ (.tup [dS R.first, .tup (R.rows.map lrowD)]) (mup μ l (boxO a' b'))
section
variable {P : Program} {w : World} {K : PySem.W.Frag} {mg : Str → Option Value} {base : Heap}
theorem sc__law_rule : FnScope ["_law_box", "_law_most", "_law_names_here", "_law_found", "_law_turn", "_law_at", "_law_form", "_law_fresh"] ["_law_box", "_law_most"] (defScope (top 62)) := ⟨rfl, rfl, rfl, by decide +kernel, rfl, by decide +kernel, by decide +kernel⟩
theorem G__law_rule (T : TF w K mg) (F : FnP K "_law_rule" "_law_rule" (top 62) (He.ga K "_law_rule")) (hm : mg "_law_rule" = some (.ref (He.ga K "_law_rule"))) (G__law_any_row : FnG P w K mg base "_law_any_row" ["_law_box", "_law_names_here"] 3 (S_any_row)) (G__law_choose : FnG P w K mg base "_law_choose" ["_law_box", "_law_many"] 1 (S_choose)) (G__law_fair_rows : FnG P w K mg base "_law_fair_rows" ["_law_box", "_law_names_here"] 3 (S_fair)) (G__law_names : FnG P w K mg base "_law_names" ["_law_box"] 3 (S_names)) : FnG P w K mg base "_law_rule" ["_law_box", "_law_most"] 4 (S_rule) := by
  refine fnG_of F hm sc__law_rule (fun _ _ _ _ _ _ us hl => match us, hl with | [_, _], _ => rfl) ?_ ?_
  · (intro ds μ Φ h; first | (obtain ⟨_, rfl, _⟩ := h; rfl) | (obtain ⟨_, _, rfl, _⟩ := h; rfl) | (obtain ⟨_, _, _, rfl, _⟩ := h; rfl) | (obtain ⟨_, _, _, _, rfl, _⟩ := h; rfl) | (obtain ⟨_, _, _, _, _, rfl, _⟩ := h; rfl) | (obtain ⟨_, _, _, _, _, _, rfl, _⟩ := h; rfl) | (obtain ⟨_, _, _, _, _, _, _, rfl, _⟩ := h; rfl) | (obtain ⟨_, _, _, _, _, _, _, _, rfl, _⟩ := h; rfl) | (obtain ⟨_, _, _, _, _, _, _, _, _, rfl, _⟩ := h; rfl) | (obtain ⟨_, _, _, _, _, _, _, _, _, _, rfl, _⟩ := h; rfl) | (obtain ⟨_, _, _, _, _, _, _, _, _, _, _, rfl, _⟩ := h; rfl) | (obtain ⟨_, _, _, _, _, _, _, _, _, _, _, _, rfl, _⟩ := h; rfl))
  intro f cdv A outer s H E hr
  have nd := sc__law_rule.nd
  refine ⟨_, (ss_cons (s_set 2 nd (q_slF (q_call G__law_names (hr.mono (by decide)) rfl (a_cons (q_var 0) a_nil)) o_none (o_some (q_add q_int (q_call G__law_choose (hr.mono (by decide)) rfl (a_cons (q_var 0) (a_cons q_int a_nil)))))))
      (ss_cons (s_set 3 nd (q_call G__law_fair_rows (hr.mono (by decide)) rfl (a_cons (q_var 0) (a_cons (q_var 2) a_nil))))
      (ss_cons (s_if (t_eq (q_call G__law_choose (hr.mono (by decide)) rfl (a_cons (q_var 0) (a_cons q_int a_nil))) q_int) (ss_one (s_setLc 3 (own := [("_law_turn", 4)]) (blk1 4) rfl nd (blkOk_by (own := [("_law_turn", 4)]) (by kernel_rfl)) rfl (sw_true rfl rfl rfl (by decide +kernel)) (i_range1 rfl (T.free "range" (by simp)) (a_cons (q_call G__law_choose (hr.mono (by decide)) rfl (a_cons (q_var 0) (a_cons (q_add (q_var 1) q_int) a_nil))) a_nil)) (fun _ _ _ _ _ => (pg_name (i := 4) nd rfl (.inl rfl))) (fun _ _ _ _ _ => ts_nil) (fun _ _ _ _ _ => (q_call G__law_any_row (hr.mono (by decide)) rfl (a_cons (q_var 0) (a_cons (q_var 2) a_nil)))))) ss_nil)
      (ss_cons (s_for PassesOwn.never rfl (i_range1 rfl (T.free "range" (by simp)) (a_cons (q_call G__law_choose (hr.mono (by decide)) rfl (a_cons (q_var 0) (a_cons q_int a_nil))) a_nil)) (g_name (i := 4) nd rfl (.inl rfl)) (ss_cons (s_set 5 nd (q_call G__law_choose (hr.mono (by decide)) rfl (a_cons (q_var 0) (a_cons (q_add (q_cb call_len_seq sim_len rfl (T.free "len" (by simp)) (by decide +kernel) (a_cons (q_var 3) a_nil)) q_int) a_nil))))
      (ss_cons (s_set 6 nd (q_call G__law_choose (hr.mono (by decide)) rfl (a_cons (q_var 0) (a_cons q_int a_nil))))
      (ss_cons (s_set 7 nd (q_if (t_gt (q_var 6) q_int) (q_lst (a_cons (q_call G__law_any_row (hr.mono (by decide)) rfl (a_cons (q_var 0) (a_cons (q_var 2) a_nil))) a_nil)) (q_lst a_nil)))
      (ss_one (s_set 3 nd (q_op op_catL sim_cat2 (q_op op_catL sim_cat2 (q_slF (q_var 3) o_none (o_some (q_var 5))) (q_var 7)) (q_slF (q_var 3) (o_some (q_add (q_var 5) (q_cty call_int1 sim_int rfl (T.free "int" (by simp)) (by decide +kernel) (a_cons (q_lt (q_var 6) q_int) a_nil)))) o_none))))))))
      (ss_one (s_ret (q_tup (a_cons (q_ix (q_var 2) q_int) (a_cons (q_cty call_tuple_of sim_tuple rfl (T.free "tuple" (by simp)) (by decide +kernel) (a_cons (q_slF (q_var 3) o_none (o_some (q_var 1))) a_nil)) a_nil))))))))), ?_⟩
  clear hr nd F hm
  rintro _ μ Φ ⟨l, a, b, m, rfl, hl, hm, h⟩
  (conv => whnf)
  refine ⟨l, a, b, rfl, hl, fun ns0 a1 b1 hns0 hns4 => ?_⟩
  (conv => whnf)
  refine ⟨l, a1, b1, 4, rfl, mup_same, by decide, by decide, fun k a2 b2 hk => ?_⟩
  rw [mup_mup]
  obtain ⟨ns, hns, ecut⟩ := cut_names hns0 hns4 hk
  (conv => whnf)
  rw [ecut]
  refine ⟨l, a2, b2, ns, rfl, mup_same, hns, fun rows0 a3 b3 hr0 hl0 => ?_⟩
  rw [mup_mup]
  (conv => whnf)
  refine ⟨l, a3, b3, 3, rfl, mup_same, by decide, by decide, fun k3 a4 b4 hk3 => ?_⟩
  rw [mup_mup]
  (conv => whnf)
  refine ⟨rfl, fun hc => ?_, fun hc => ?_⟩
  · (conv => whnf)
    refine ⟨l, a4, b4, m + 1, rfl, mup_same, by omega, by omega, fun k5 a5 b5 hk5 => ?_⟩
    rw [mup_mup]
    (conv => whnf)
    refine ⟨⟨by omega, by omega⟩, LcD.intro (fun i acc μ' => ∃ (rows : List RowM) (a b : Int), acc = rows.map lrowD ∧ (∀ r ∈ rows, RowOk r) ∧ rows.length ≤ i ∧ μ' = mup μ l (boxO a b)) ⟨[], a5, b5, rfl, (fun r hr => nomatch hr), Nat.le_refl 0, rfl⟩ ?_ ?_⟩
    · rintro i x acc μ' hx ⟨rows, a, b, rfl, hr, hl2, rfl⟩
      obtain ⟨hi, rfl⟩ := rng_get hx
      refine ⟨_, rfl, fun _ => ?_, fun z => (tf_ z).elim⟩
      (conv => whnf)
      refine ⟨l, a, b, ns, rfl, mup_same, hns, fun r a6 b6 hrk => ?_⟩
      rw [mup_mup]
      refine lenOk.mk (by simp; omega) ⟨rows ++ [r], a6, b6, app_row.symm, ok_app hr hrk, by simp; omega, rfl⟩
    · rintro ys μ' ⟨rows, a, b, rfl, hr, hl2, rfl⟩
      rw [rngD_len] at hl2
      have hl2 : rows.length ≤ 1000 := by omega
      (conv => whnf)
      refine ⟨l, a, b, 3, rfl, mup_same, by decide, by decide, fun kt at_ bt hkt => ?_⟩
      rw [mup_mup]
      (conv => whnf)
      refine ⟨⟨by omega, by omega⟩, fun i ρ μ' => ∃ (rows : List RowM) (a b : Int), (∀ r ∈ rows, RowOk r) ∧ rows.length ≤ 1001 * 3 ^ i ∧ μ' = mup μ l (boxO a b) ∧ ∃ d4 d5 d6 d7, ρ = [some (dR l), some (dI (m : Int)), some (.lst (ns.map dS)), some (.lst (rows.map lrowD)), d4, d5, d6, d7], ?_, ?_, ?_⟩
      · exact ⟨rows, at_, bt, hr, by simp; omega, rfl, _, _, _, _, rfl⟩
      · rintro i x ρ μ' hx ⟨rows, a, b, hr, hl2, rfl, d4, d5, d6, d7, rfl⟩
        obtain ⟨hi, rfl⟩ := rng_get hx
        have h3p : 0 < 3 ^ i := Nat.pow_pos (by decide)
        have h3i : 3 ^ i ≤ 3 ^ 2 := Nat.pow_le_pow_right (by decide) (by omega)
        (conv => whnf)
        refine ⟨l, a, b, rows.length + 1, ?_, mup_same, by omega, by omega, fun k6 a6 b6 hk6 => ?_⟩
        · rw [List.length_map] <;> rfl
        rw [mup_mup]
        (conv => whnf)
        refine ⟨l, a6, b6, 3, rfl, mup_same, by decide, by decide, fun k7 a7 b7 hk7 => ?_⟩
        rw [mup_mup]
        obtain ⟨p1, e1, m1, l1⟩ := cut_map (f := lrowD) (xs := rows) (lo := none) (hi := some (k6 : Int))
        (conv => whnf)
        refine ⟨fun hc => ?_, fun hc => ?_⟩
        · (conv => whnf)
          refine ⟨l, a7, b7, ns, rfl, mup_same, hns, fun rf a8 b8 hrf => ?_⟩
          rw [mup_mup]
          (conv => whnf)
          rw [e1]
          refine ⟨rfl, rfl, ?_⟩
          (conv => whnf)
          refine lenOk.mk (by simp; omega) ?_
          (conv => whnf)
          obtain ⟨p2, e2, m2, l2⟩ := cut_map (f := lrowD) (xs := rows) (lo := some ((k6 : Int) + (if decide ((k7 : Int) < 2) = true then 1 else 0))) (hi := none)
          refine ⟨rfl, rfl, ?_⟩
          (conv => whnf)
          refine lenOk.mk ?_ ?_
          · rw [e2]; simp; omega
          · rw [e2]
            exact ⟨p1 ++ [rf] ++ p2, _, _, (fun r hr' => (List.mem_append.mp hr').elim (fun z => (List.mem_append.mp z).elim (fun z => hr r (m1 r z)) (fun z => (List.mem_singleton.mp z) ▸ hrf)) fun z => hr r (m2 r z)), by rw [Nat.pow_succ]; simp; omega, rfl, some (dI (i : Nat)), some (dI (k6 : Nat)), some (dI (k7 : Nat)), some (.lst [lrowD rf]), by simp [List.map_append]⟩
        · (conv => whnf)
          rw [e1]
          refine ⟨rfl, rfl, ?_⟩
          (conv => whnf)
          refine lenOk.mk (by simp; omega) ?_
          (conv => whnf)
          obtain ⟨p2, e2, m2, l2⟩ := cut_map (f := lrowD) (xs := rows) (lo := some ((k6 : Int) + (if decide ((k7 : Int) < 2) = true then 1 else 0))) (hi := none)
          refine ⟨rfl, rfl, ?_⟩
          (conv => whnf)
          refine lenOk.mk ?_ ?_
          · rw [e2]; simp; omega
          · rw [e2]
            exact ⟨p1 ++ [] ++ p2, _, _, (fun r hr' => (List.mem_append.mp hr').elim (fun z => (List.mem_append.mp z).elim (fun z => hr r (m1 r z)) (fun z => nomatch z)) fun z => hr r (m2 r z)), by rw [Nat.pow_succ]; simp; omega, rfl, some (dI (i : Nat)), some (dI (k6 : Nat)), some (dI (k7 : Nat)), some (.lst []), by simp [List.map_append]⟩
      · rintro ρ μ' ⟨rows, a, b, hr, hl2, rfl, d4, d5, d6, d7, rfl⟩
        have hpos : 0 < ns.length := List.length_pos_iff.mpr hns.1
        have e0 : atI (ns.map dS) (0 : Int) = some (dS (ns[0]'hpos)) := atI_nat (i := 0) (by rw [List.getElem?_map, List.getElem?_eq_getElem hpos] <;> rfl)
        (conv => whnf)
        (split; rotate_left; (rename_i e_; exact nomatch ((e0).symm.trans e_)); rename_i ts_ e_; cases ((e0).symm.trans e_))
        (conv => whnf)
        refine ⟨_, fun _ _ e => e, ?_⟩
        rw [cut_pre]
        exact h ⟨ns[0]'hpos, rows.take m⟩ a b (hns.2.2 _ (List.getElem_mem hpos)) (fun r hq => hr r (List.mem_of_mem_take hq)) (by rw [List.length_take]; omega)
  · (conv => whnf)
    refine ⟨l, a4, b4, 3, rfl, mup_same, by decide, by decide, fun kt at_ bt hkt => ?_⟩
    rw [mup_mup]
    (conv => whnf)
    refine ⟨⟨by omega, by omega⟩, fun i ρ μ' => ∃ (rows : List RowM) (a b : Int), (∀ r ∈ rows, RowOk r) ∧ rows.length ≤ 1001 * 3 ^ i ∧ μ' = mup μ l (boxO a b) ∧ ∃ d4 d5 d6 d7, ρ = [some (dR l), some (dI (m : Int)), some (.lst (ns.map dS)), some (.lst (rows.map lrowD)), d4, d5, d6, d7], ?_, ?_, ?_⟩
    · exact ⟨rows0, at_, bt, hr0, by simp; omega, rfl, _, _, _, _, rfl⟩
    · rintro i x ρ μ' hx ⟨rows, a, b, hr, hl2, rfl, d4, d5, d6, d7, rfl⟩
      obtain ⟨hi, rfl⟩ := rng_get hx
      have h3p : 0 < 3 ^ i := Nat.pow_pos (by decide)
      have h3i : 3 ^ i ≤ 3 ^ 2 := Nat.pow_le_pow_right (by decide) (by omega)
      (conv => whnf)
      refine ⟨l, a, b, rows.length + 1, ?_, mup_same, by omega, by omega, fun k6 a6 b6 hk6 => ?_⟩
      · rw [List.length_map] <;> rfl
      rw [mup_mup]
      (conv => whnf)
      refine ⟨l, a6, b6, 3, rfl, mup_same, by decide, by decide, fun k7 a7 b7 hk7 => ?_⟩
      rw [mup_mup]
      obtain ⟨p1, e1, m1, l1⟩ := cut_map (f := lrowD) (xs := rows) (lo := none) (hi := some (k6 : Int))
      (conv => whnf)
      refine ⟨fun hc => ?_, fun hc => ?_⟩
      · (conv => whnf)
        refine ⟨l, a7, b7, ns, rfl, mup_same, hns, fun rf a8 b8 hrf => ?_⟩
        rw [mup_mup]
        (conv => whnf)
        rw [e1]
        refine ⟨rfl, rfl, ?_⟩
        (conv => whnf)
        refine lenOk.mk (by simp; omega) ?_
        (conv => whnf)
        obtain ⟨p2, e2, m2, l2⟩ := cut_map (f := lrowD) (xs := rows) (lo := some ((k6 : Int) + (if decide ((k7 : Int) < 2) = true then 1 else 0))) (hi := none)
        refine ⟨rfl, rfl, ?_⟩
        (conv => whnf)
        refine lenOk.mk ?_ ?_
        · rw [e2]; simp; omega
        · rw [e2]
          exact ⟨p1 ++ [rf] ++ p2, _, _, (fun r hr' => (List.mem_append.mp hr').elim (fun z => (List.mem_append.mp z).elim (fun z => hr r (m1 r z)) (fun z => (List.mem_singleton.mp z) ▸ hrf)) fun z => hr r (m2 r z)), by rw [Nat.pow_succ]; simp; omega, rfl, some (dI (i : Nat)), some (dI (k6 : Nat)), some (dI (k7 : Nat)), some (.lst [lrowD rf]), by simp [List.map_append]⟩
      · (conv => whnf)
        rw [e1]
        refine ⟨rfl, rfl, ?_⟩
        (conv => whnf)
        refine lenOk.mk (by simp; omega) ?_
        (conv => whnf)
        obtain ⟨p2, e2, m2, l2⟩ := cut_map (f := lrowD) (xs := rows) (lo := some ((k6 : Int) + (if decide ((k7 : Int) < 2) = true then 1 else 0))) (hi := none)
        refine ⟨rfl, rfl, ?_⟩
        (conv => whnf)
        refine lenOk.mk ?_ ?_
        · rw [e2]; simp; omega
        · rw [e2]
          exact ⟨p1 ++ [] ++ p2, _, _, (fun r hr' => (List.mem_append.mp hr').elim (fun z => (List.mem_append.mp z).elim (fun z => hr r (m1 r z)) (fun z => nomatch z)) fun z => hr r (m2 r z)), by rw [Nat.pow_succ]; simp; omega, rfl, some (dI (i : Nat)), some (dI (k6 : Nat)), some (dI (k7 : Nat)), some (.lst []), by simp [List.map_append]⟩
    · rintro ρ μ' ⟨rows, a, b, hr, hl2, rfl, d4, d5, d6, d7, rfl⟩
      have hpos : 0 < ns.length := List.length_pos_iff.mpr hns.1
      have e0 : atI (ns.map dS) (0 : Int) = some (dS (ns[0]'hpos)) := atI_nat (i := 0) (by rw [List.getElem?_map, List.getElem?_eq_getElem hpos] <;> rfl)
      (conv => whnf)
      (split; rotate_left; (rename_i e_; exact nomatch ((e0).symm.trans e_)); rename_i ts_ e_; cases ((e0).symm.trans e_))
      (conv => whnf)
      refine ⟨_, fun _ _ e => e, ?_⟩
      rw [cut_pre]
      exact h ⟨ns[0]'hpos, rows.take m⟩ a b (hns.2.2 _ (List.getElem_mem hpos)) (fun r hq => hr r (List.mem_of_mem_take hq)) (by rw [List.length_take]; omega)
end
end K3
set_option Elab.async false
set_option linter.all false
set_option maxRecDepth 100000
set_option maxHeartbeats 800000
set_option pp.maxSteps 600
/-! KG23: texts of rows and rules. -/
namespace K3
open PySem PySem.Spec PyProof.Rows L2
def wordsM (r : RowM) : List Str := [r.mode, r.pick, r.move, r.thn] ++ (if r.also then [("also" : Str)] else [])
def rowT (r : RowM) : Str := Txt.join " " (wordsM r)
def linesM (R : RuleM) : List Str := Txt.join " " [("first" : Str), R.first] :: R.rows.map rowT
def ruleT (R : RuleM) : Str := Txt.join "\n" (linesM R)
theorem rowT_eq (r : RowM) : Txt.join " " [r.mode, r.pick, r.move, r.thn] ++ (if r.also then (" also" : Str) else "") = rowT r := by
  unfold rowT wordsM
  rw [TL.join_eq, TL.join_eq]
  cases r.also with
  | false =>
    show (r.mode ++ " " ++ (r.pick ++ " " ++ (r.move ++ " " ++ r.thn))) ++ ("" : Str) = r.mode ++ " " ++ (r.pick ++ " " ++ (r.move ++ " " ++ r.thn))
    exact Str.append_empty _
  | true =>
    have e : (" also" : Str) = " " ++ "also" := by decide
    show (r.mode ++ " " ++ (r.pick ++ " " ++ (r.move ++ " " ++ r.thn))) ++ (" also" : Str) = r.mode ++ " " ++ (r.pick ++ " " ++ (r.move ++ " " ++ (r.thn ++ " " ++ "also")))
    rw [e]
    simp only [Str.append_assoc]
theorem firstT_eq (x : Str) : ("first " : Str) ++ x = Txt.join " " [("first" : Str), x] := by
  rw [TL.join_eq]
  have e : ("first " : Str) = "first" ++ " " := by decide
  show ("first " : Str) ++ x = "first" ++ " " ++ x
  rw [e]
/-- no blank, no line feed in a name -/
theorem name_free {x : Str} (h : nameOk x = true) : (32 : Nat) ∉ TL.tl x ∧ (10 : Nat) ∉ TL.tl x ∧ x.length ≤ 4 := by
  simp only [nameOk, Bool.and_eq_true, decide_eq_true_eq] at h
  obtain ⟨⟨⟨_, h2⟩, _⟩, h4⟩ := h
  have h4 := List.all_eq_true.mp h4
  refine ⟨fun z => ?_, fun z => ?_, h2⟩
  · exact absurd (of_decide_eq_true (h4 32 z)) (by decide)
  · exact absurd (of_decide_eq_true (h4 10 z)) (by decide)
theorem words_free {r : RowM} (h : RowOk r) : ∀ p ∈ wordsM r, (32 : Nat) ∉ TL.tl p ∧ (10 : Nat) ∉ TL.tl p ∧ p.length ≤ 5 := by
  obtain ⟨h1, h2, h3, h4⟩ := h
  have f1 := name_free h1
  have f4 := name_free h4
  have f2 : ∀ q ∈ picksL, (32 : Nat) ∉ TL.tl q ∧ (10 : Nat) ∉ TL.tl q ∧ q.length ≤ 5 := by decide
  have f3 : ∀ q ∈ movesL, (32 : Nat) ∉ TL.tl q ∧ (10 : Nat) ∉ TL.tl q ∧ q.length ≤ 5 := by decide
  have f5 : (32 : Nat) ∉ TL.tl ("also" : Str) ∧ (10 : Nat) ∉ TL.tl ("also" : Str) ∧ ("also" : Str).length ≤ 5 := by decide
  intro p hp
  unfold wordsM at hp
  rcases List.mem_append.mp hp with z | z
  · simp only [List.mem_cons, List.not_mem_nil, or_false] at z
    rcases z with rfl | rfl | rfl | rfl
    · exact ⟨f1.1, f1.2.1, by omega⟩
    · exact f2 _ h2
    · exact f3 _ h3
    · exact ⟨f4.1, f4.2.1, by omega⟩
  · split at z
    · rw [List.mem_singleton.mp z]; exact f5
    · cases z
theorem words_ne (r : RowM) : wordsM r ≠ [] := by unfold wordsM; simp
theorem split_row {r : RowM} (h : RowOk r) : Txt.split (rowT r) " " = wordsM r := TL.split_join (s := 32) (S := []) rfl (by decide +kernel) (words_ne r) fun p hp => (words_free h p hp).1
theorem joinL_free {s : Nat} {S : List Nat} (hS : s ∉ S) : ∀ {ps : List (List Nat)}, (∀ p ∈ ps, s ∉ p) → s ∉ TL.joinL S ps
  | [], _ => by simp [TL.joinL]
  | [p], h => h p (by simp)
  | p :: q :: r, h => by
    have ih := joinL_free hS (ps := q :: r) fun z hz => h z (List.mem_cons_of_mem _ hz)
    show s ∉ p ++ (S ++ TL.joinL S (q :: r))
    simp only [List.mem_append, not_or]
    exact ⟨h p (by simp), hS, ih⟩
theorem row_free {r : RowM} (h : RowOk r) : (10 : Nat) ∉ TL.tl (rowT r) := by
  unfold rowT
  rw [TL.join_eq, TL.tl_join]
  refine joinL_free (by decide) fun p hp => ?_
  obtain ⟨q, hq, rfl⟩ := List.mem_map.mp hp
  exact (words_free h q hq).2.1
theorem first_free {x : Str} (h : nameOk x = true) : (10 : Nat) ∉ TL.tl (Txt.join " " [("first" : Str), x]) := by
  rw [TL.join_eq, TL.tl_join]
  refine joinL_free (by decide) fun p hp => ?_
  obtain ⟨q, hq, rfl⟩ := List.mem_map.mp hp
  simp only [List.mem_cons, List.not_mem_nil, or_false] at hq
  rcases hq with rfl | rfl
  · decide
  · exact (name_free h).2.1
theorem split_rule {R : RuleM} (hf : nameOk R.first = true) (hr : ∀ r ∈ R.rows, RowOk r) : Txt.split (ruleT R) "\n" = linesM R := TL.split_join (s := 10) (S := []) rfl (by decide +kernel) (by unfold linesM; simp) fun p hp => by
  unfold linesM at hp
  rcases List.mem_cons.mp hp with rfl | z
  · exact first_free hf
  · obtain ⟨r, h1, rfl⟩ := List.mem_map.mp z
    exact row_free (hr r h1)
theorem split_first {x : Str} (h : nameOk x = true) : Txt.split (Txt.join " " [("first" : Str), x]) " " = [("first" : Str), x] := TL.split_join (s := 32) (S := []) rfl (by decide +kernel) (by simp) fun p hp => by
  simp only [List.mem_cons, List.not_mem_nil, or_false] at hp
  rcases hp with rfl | rfl
  · decide
  · exact (name_free h).1
theorem row_len {r : RowM} (h : RowOk r) : (rowT r).length ≤ 50 := by
  unfold rowT
  rw [TL.join_eq]
  refine Nat.le_trans (StrLaws.join_length_le " " (wordsM r)) ?_
  have hw := words_free h
  unfold wordsM at hw ⊢
  have e : (" " : Str).length = 1 := rfl
  cases r.also with
  | false =>
    have a1 := (hw r.mode (by simp)).2.2
    have a2 := (hw r.pick (by simp)).2.2
    have a3 := (hw r.move (by simp)).2.2
    have a4 := (hw r.thn (by simp)).2.2
    simp [e]; omega
  | true =>
    have a1 := (hw r.mode (by simp)).2.2
    have a2 := (hw r.pick (by simp)).2.2
    have a3 := (hw r.move (by simp)).2.2
    have a4 := (hw r.thn (by simp)).2.2
    have a5 : ("also" : Str).length = 4 := rfl
    simp [e, a5]; omega
end K3
set_option Elab.async false
set_option linter.all false
set_option maxRecDepth 100000
set_option maxHeartbeats 800000
set_option pp.maxSteps 600
/-! KG23: rows and rules read. -/
namespace K3
open PySem PySem.Spec PyProof.Rows L2
def S_row_text : DSp := fun xs μ Φ => ∃ r : RowM, xs = [lrowD r] ∧ RowOk r ∧ Φ (dS (rowT r)) μ
def S_row_of (K : PySem.W.Frag) : DSp := fun xs μ Φ => ∃ r : RowM, xs = [dS (rowT r)] ∧ RowOk r ∧ Φ (rowD K r) μ
def S_first_of : DSp := fun xs μ Φ => ∃ x : Str, xs = [dS (Txt.join " " [("first" : Str), x])] ∧ nameOk x = true ∧ Φ (dS x) μ
section
variable {P : Program} {w : World} {K : PySem.W.Frag} {mg : Str → Option Value} {base : Heap}
theorem sc__law_row_text : FnScope ["_law_row"] ["_law_row"] (defScope (top 63)) := ⟨rfl, rfl, rfl, by decide +kernel, rfl, by decide +kernel, by decide +kernel⟩
theorem G__law_row_text (T : TF w K mg) (F : FnP K "_law_row_text" "_law_row_text" (top 63) (He.ga K "_law_row_text")) (hm : mg "_law_row_text" = some (.ref (He.ga K "_law_row_text")))  : FnG P w K mg base "_law_row_text" ["_law_row"] 1 (S_row_text) := by
  refine fnG_of F hm sc__law_row_text (fun _ _ _ _ _ _ us hl => match us, hl with | [_], _ => rfl) ?_ ?_
  · (intro ds μ Φ h; first | (obtain ⟨_, rfl, _⟩ := h; rfl) | (obtain ⟨_, _, rfl, _⟩ := h; rfl) | (obtain ⟨_, _, _, rfl, _⟩ := h; rfl) | (obtain ⟨_, _, _, _, rfl, _⟩ := h; rfl) | (obtain ⟨_, _, _, _, _, rfl, _⟩ := h; rfl) | (obtain ⟨_, _, _, _, _, _, rfl, _⟩ := h; rfl) | (obtain ⟨_, _, _, _, _, _, _, rfl, _⟩ := h; rfl) | (obtain ⟨_, _, _, _, _, _, _, _, rfl, _⟩ := h; rfl) | (obtain ⟨_, _, _, _, _, _, _, _, _, rfl, _⟩ := h; rfl) | (obtain ⟨_, _, _, _, _, _, _, _, _, _, rfl, _⟩ := h; rfl) | (obtain ⟨_, _, _, _, _, _, _, _, _, _, _, rfl, _⟩ := h; rfl) | (obtain ⟨_, _, _, _, _, _, _, _, _, _, _, _, rfl, _⟩ := h; rfl))
  intro f cdv A outer s H E hr
  have nd := sc__law_row_text.nd
  refine ⟨_, (ss_one (s_ret (q_op op_add_str sim_catS (q_join q_str (q_slT (q_var 0) o_none (o_some q_int))) (q_if (t_val (q_ix (q_var 0) q_int)) q_str q_str)))), ?_⟩
  clear hr nd F hm
  rintro _ μ Φ ⟨r, rfl, hr, h⟩
  have hlen : (Txt.join (" " : Str) [r.mode, r.pick, r.move, r.thn]).length ≤ 60 := by
    rw [TL.join_eq]
    refine Nat.le_trans (StrLaws.join_length_le " " _) ?_
    have hw := words_free hr
    have a1 := (hw r.mode (by simp [wordsM])).2.2
    have a2 := (hw r.pick (by simp [wordsM])).2.2
    have a3 := (hw r.move (by simp [wordsM])).2.2
    have a4 := (hw r.thn (by simp [wordsM])).2.2
    have e : (" " : Str).length = 1 := rfl
    simp [e]; omega
  have hw := words_free hr
  have a1 := (hw r.mode (by simp [wordsM])).2.2
  have a2 := (hw r.pick (by simp [wordsM])).2.2
  have a3 := (hw r.move (by simp [wordsM])).2.2
  have a4 := (hw r.thn (by simp [wordsM])).2.2
  have e := rowT_eq r
  (conv => whnf)
  refine ⟨[r.mode, r.pick, r.move, r.thn], rfl, ?_, ?_⟩
  · have e : (" " : Str).length = 1 := rfl
    simp [e]; omega
  · (conv => whnf)
    refine ⟨fun hc => ?_, fun hc => ?_⟩
    · have hc : r.also = true := hc
      rw [hc] at e
      (conv => whnf)
      refine lenOk.mk (by show _ + 5 ≤ 100000; omega) ⟨_, fun _ _ e => e, ?_⟩
      rw [show Txt.join (" " : Str) [r.mode, r.pick, r.move, r.thn] ++ (" also" : Str) = rowT r from e]
      exact h
    · have hc : r.also = false := hc
      rw [hc] at e
      (conv => whnf)
      refine lenOk.mk (by show _ + 0 ≤ 100000; omega) ⟨_, fun _ _ e => e, ?_⟩
      rw [show Txt.join (" " : Str) [r.mode, r.pick, r.move, r.thn] ++ ("" : Str) = rowT r from e]
      exact h
theorem sc_first_of : FnScope ["line", "words"] ["line"] (defScope (top 53)) := ⟨rfl, rfl, rfl, by decide +kernel, rfl, by decide +kernel, by decide +kernel⟩
theorem G_first_of (T : TF w K mg) (F : FnP K "first_of" "first_of" (top 53) (He.ga K "first_of")) (hm : mg "first_of" = some (.ref (He.ga K "first_of"))) (G_is_name : FnG P w K mg base "is_name" ["value"] 1 (S_is_name)) : FnG P w K mg base "first_of" ["line"] 2 (S_first_of) := by
  refine fnG_of F hm sc_first_of (fun _ _ _ _ _ _ us hl => match us, hl with | [_], _ => rfl) ?_ ?_
  · (intro ds μ Φ h; first | (obtain ⟨_, rfl, _⟩ := h; rfl) | (obtain ⟨_, _, rfl, _⟩ := h; rfl) | (obtain ⟨_, _, _, rfl, _⟩ := h; rfl) | (obtain ⟨_, _, _, _, rfl, _⟩ := h; rfl) | (obtain ⟨_, _, _, _, _, rfl, _⟩ := h; rfl) | (obtain ⟨_, _, _, _, _, _, rfl, _⟩ := h; rfl) | (obtain ⟨_, _, _, _, _, _, _, rfl, _⟩ := h; rfl) | (obtain ⟨_, _, _, _, _, _, _, _, rfl, _⟩ := h; rfl) | (obtain ⟨_, _, _, _, _, _, _, _, _, rfl, _⟩ := h; rfl) | (obtain ⟨_, _, _, _, _, _, _, _, _, _, rfl, _⟩ := h; rfl) | (obtain ⟨_, _, _, _, _, _, _, _, _, _, _, rfl, _⟩ := h; rfl) | (obtain ⟨_, _, _, _, _, _, _, _, _, _, _, _, rfl, _⟩ := h; rfl))
  intro f cdv A outer s H E hr
  have nd := sc_first_of.nd
  refine ⟨_, (ss_cons (s_set 1 nd (q_split (q_var 0) q_str))
      (ss_one (s_ret (q_if (t_w (w_and (t_eq (q_cb call_len_seq sim_len rfl (T.free "len" (by simp)) (by decide +kernel) (a_cons (q_var 1) a_nil)) q_int) (w_and (t_eq (q_ix (q_var 1) q_int) q_str) (w_and1 (t_val (q_call G_is_name (hr.mono (by decide)) rfl (a_cons (q_ix (q_var 1) q_int) a_nil))))))) (q_ix (q_var 1) q_int) q_non)))), ?_⟩
  clear hr nd F hm
  rintro _ μ Φ ⟨x, rfl, hx, h⟩
  have hsp := split_first hx
  have hl : (Txt.join (" " : Str) [("first" : Str), x]).length ≤ 60 := by
    rw [TL.join_eq]
    refine Nat.le_trans (StrLaws.join_length_le " " _) ?_
    have := (name_free hx).2.2
    have e : (" " : Str).length = 1 := rfl
    have e2 : ("first" : Str).length = 5 := rfl
    simp [e, e2]; omega
  (conv => whnf)
  refine ⟨rfl, lenOk.mk (by omega) ?_⟩
  rw [hsp]
  ((repeat' ((conv => whnf) <;> first | refine And.intro rfl ?_ | (refine And.intro (fun hc => ?_) (fun hc => ?_) <;> first | (exact (tf_ hc).elim) | (exact (ft_ hc).elim) | skip) | refine @Exists.intro Mu _ _ (And.intro (fun _ _ e => e) ?_) | refine @Exists.intro (List V) _ _ (And.intro rfl ?_) | refine @Exists.intro PyData _ _ (And.intro rfl ?_))) <;> (try (conv => whnf)))
  refine ⟨x, rfl, hx, ?_⟩
  ((repeat' ((conv => whnf) <;> first | refine And.intro rfl ?_ | (refine And.intro (fun hc => ?_) (fun hc => ?_) <;> first | (exact (tf_ hc).elim) | (exact (ft_ hc).elim) | skip) | refine @Exists.intro Mu _ _ (And.intro (fun _ _ e => e) ?_) | refine @Exists.intro (List V) _ _ (And.intro rfl ?_) | refine @Exists.intro PyData _ _ (And.intro rfl ?_))) <;> (try (conv => whnf)))
  exact h
theorem sc_row_of : FnScope ["text", "words", "also"] ["text"] (defScope (top 51)) := ⟨rfl, rfl, rfl, by decide +kernel, rfl, by decide +kernel, by decide +kernel⟩
theorem G_row_of (T : TF w K mg) (F : FnP K "row_of" "row_of" (top 51) (He.ga K "row_of")) (hm : mg "row_of" = some (.ref (He.ga K "row_of"))) (G_Row___init__ : MakeG P w K mg base (He.ga K "Row") ["self", "mode", "pick", "move", "then", "also"] 2 ((S_Row K))) : FnG P w K mg base "row_of" ["text"] 4 ((S_row_of K)) := by
  refine fnG_of F hm sc_row_of (fun _ _ _ _ _ _ us hl => match us, hl with | [_], _ => rfl) ?_ ?_
  · (intro ds μ Φ h; first | (obtain ⟨_, rfl, _⟩ := h; rfl) | (obtain ⟨_, _, rfl, _⟩ := h; rfl) | (obtain ⟨_, _, _, rfl, _⟩ := h; rfl) | (obtain ⟨_, _, _, _, rfl, _⟩ := h; rfl) | (obtain ⟨_, _, _, _, _, rfl, _⟩ := h; rfl) | (obtain ⟨_, _, _, _, _, _, rfl, _⟩ := h; rfl) | (obtain ⟨_, _, _, _, _, _, _, rfl, _⟩ := h; rfl) | (obtain ⟨_, _, _, _, _, _, _, _, rfl, _⟩ := h; rfl) | (obtain ⟨_, _, _, _, _, _, _, _, _, rfl, _⟩ := h; rfl) | (obtain ⟨_, _, _, _, _, _, _, _, _, _, rfl, _⟩ := h; rfl) | (obtain ⟨_, _, _, _, _, _, _, _, _, _, _, rfl, _⟩ := h; rfl) | (obtain ⟨_, _, _, _, _, _, _, _, _, _, _, _, rfl, _⟩ := h; rfl))
  intro f cdv A outer s H E hr
  have nd := sc_row_of.nd
  refine ⟨_, (ss_cons (s_set 1 nd (q_split (q_var 0) q_str))
      (ss_cons (s_set 2 nd (q_cmp (op_eqD hr.units) sim_eqD (q_slF (q_var 1) (o_some (q_gI rfl T.short)) o_none) (q_lst (a_cons q_str a_nil)) (nomark _)))
      (ss_cons (s_if (t_w (w_or (t_lt (q_cb call_len_seq sim_len rfl (T.free "len" (by simp)) (by decide +kernel) (a_cons (q_var 1) a_nil)) (q_gI rfl T.short)) (w_or1 (t_w (w_and (t_gt (q_cb call_len_seq sim_len rfl (T.free "len" (by simp)) (by decide +kernel) (a_cons (q_var 1) a_nil)) (q_gI rfl T.short)) (w_and1 (t_not (t_val (q_var 2))))))))) (ss_one (s_ret q_non)) ss_nil)
      (ss_one (s_try rfl rfl ⟨rfl, by decide, .inl T.bad⟩ fun _ _ _ => (ss_one (s_ret (q_makeF G_Row___init__ (hr.mono (by decide)) rfl T.row.g (a_cons (q_ix (q_var 1) q_int) (a_cons (q_ix (q_var 1) q_int) (a_cons (q_ix (q_var 1) q_int) (a_cons (q_ix (q_var 1) q_int) (a_cons (q_var 2) a_nil))))))))))))), ?_⟩
  clear hr nd F hm
  rintro _ μ Φ ⟨r, rfl, hr, h⟩
  have hsp := split_row hr
  have hl := row_len hr
  (conv => whnf)
  refine ⟨rfl, lenOk.mk (by omega) ?_⟩
  rw [hsp]
  have he : wordsM r = [r.mode, r.pick, r.move, r.thn] ++ (if r.also then [("also" : Str)] else []) := rfl
  rw [he]
  have sh1 : SeqAt.shaped (PyData.list [PyData.str ("also" : Str)]) = true := by decide +kernel
  have sh2 : SeqAt.shaped (PyData.list []) = true := by decide +kernel
  have q1 : PyData.eqv (PyData.list [PyData.str ("also" : Str)]) (PyData.list [PyData.str ("also" : Str)]) = true := by decide +kernel
  have q2 : PyData.eqv (PyData.list []) (PyData.list [PyData.str ("also" : Str)]) = false := by decide +kernel
  have hdel : ∀ p o, μ p = none → ∀ (μ' : Mu), (∀ a, a ≠ p → μ' a = mup μ p o a) → ∀ a u, μ a = some u → mdel μ' p a = some u := fun p o hp μ' hm a u e => by
    have ne : a ≠ p := fun z => by rw [z, hp] at e; cases e
    rw [mdel_ne ne, hm a ne, mup_ne ne]; exact e
  cases hal : r.also with
  | true =>
    ((repeat' ((conv => whnf) <;> first | refine And.intro rfl ?_ | (refine And.intro (fun hc => ?_) (fun hc => ?_) <;> first | (exact (tf_ hc).elim) | (exact (ft_ hc).elim) | skip) | refine @Exists.intro Mu _ _ (And.intro (fun _ _ e => e) ?_) | refine @Exists.intro (List V) _ _ (And.intro rfl ?_) | refine @Exists.intro PyData _ _ (And.intro rfl ?_))) <;> (try (conv => whnf)))
    refine ⟨sh1, sh1, ?_⟩
    ((repeat' ((conv => whnf) <;> first | refine And.intro rfl ?_ | (refine And.intro (fun hc => ?_) (fun hc => ?_) <;> first | (exact (tf_ hc).elim) | (exact (ft_ hc).elim) | skip) | refine @Exists.intro Mu _ _ (And.intro (fun _ _ e => e) ?_) | refine @Exists.intro (List V) _ _ (And.intro rfl ?_) | refine @Exists.intro PyData _ _ (And.intro rfl ?_))) <;> (try (conv => whnf)))
    all_goals (first | (exfalso; rename_i hc; rw [show (!PyData.eqv (PyData.list [PyData.str ("also" : Str)]) (PyData.list [PyData.str ("also" : Str)])) = true from hc] at *; done) | skip)
    all_goals (intro p hp; refine ⟨p, r, ?_, mup_same, hr, fun μ' hm hp' => ⟨rfl, _, hp', μ, hdel p _ hp μ' hm, h⟩⟩)
    all_goals (rw [hal]; exact congrArg (fun b => [dR p, dS r.mode, dS r.pick, dS r.move, dS r.thn, dB b]) q1)
  | false =>
    ((repeat' ((conv => whnf) <;> first | refine And.intro rfl ?_ | (refine And.intro (fun hc => ?_) (fun hc => ?_) <;> first | (exact (tf_ hc).elim) | (exact (ft_ hc).elim) | skip) | refine @Exists.intro Mu _ _ (And.intro (fun _ _ e => e) ?_) | refine @Exists.intro (List V) _ _ (And.intro rfl ?_) | refine @Exists.intro PyData _ _ (And.intro rfl ?_))) <;> (try (conv => whnf)))
    refine ⟨sh1, ?_⟩
    ((repeat' ((conv => whnf) <;> first | refine And.intro rfl ?_ | (refine And.intro (fun hc => ?_) (fun hc => ?_) <;> first | (exact (tf_ hc).elim) | (exact (ft_ hc).elim) | skip) | refine @Exists.intro Mu _ _ (And.intro (fun _ _ e => e) ?_) | refine @Exists.intro (List V) _ _ (And.intro rfl ?_) | refine @Exists.intro PyData _ _ (And.intro rfl ?_))) <;> (try (conv => whnf)))
    all_goals (intro p hp; refine ⟨p, r, ?_, mup_same, hr, fun μ' hm hp' => ⟨rfl, _, hp', μ, hdel p _ hp μ' hm, h⟩⟩)
    all_goals (rw [hal]; exact congrArg (fun b => [dR p, dS r.mode, dS r.pick, dS r.move, dS r.thn, dB b]) q2)
end
end K3
set_option Elab.async false
set_option linter.all false
set_option maxRecDepth 100000
set_option maxHeartbeats 800000
set_option pp.maxSteps 600
/-! KM8: helpers for the law's own walk: its states as keys, comparable data, comprehensions over a mapped list. -/
namespace K3
open PySem PySem.Spec PyProof.Rows L2
theorem LcD.mapG {α : Type} {bl : D → Option Rho} {de : DE} {μ : Mu} {Φ : List D → Mu → Prop} (L : List α) (f g : α → D) (hl : L.length ≤ 100000) (h : ∀ a ∈ L, ∃ ρb, bl (f a) = some ρb ∧ ∀ Ψ : DK, Ψ (g a) μ → de ρb μ Ψ) (k : Φ (L.map g) μ) : LcD bl dYes de (L.map f) μ Φ := by
  refine LcD.intro (fun i acc μ' => acc = (L.take i).map g ∧ μ' = μ) ⟨rfl, rfl⟩ ?_ ?_
  · rintro i x acc μ' hx ⟨rfl, rfl⟩
    obtain ⟨a, ha, rfl⟩ := map_get hx
    obtain ⟨ρb, e, hd⟩ := h a (List.mem_of_getElem? ha)
    refine ⟨ρb, e, fun _ => hd _ (lenOk.mk ?_ ⟨?_, rfl⟩), fun z => (tf_ z).elim⟩
    · rw [List.length_map, List.length_take]; omega
    · rw [take_get ha, List.map_append] <;> rfl
  · rintro ys μ' ⟨rfl, rfl⟩
    rw [List.length_map, List.take_of_length_le (Nat.le_refl _)]
    exact k
theorem LcD.filterG {α : Type} {bl : D → Option Rho} {dt : DT} {de : DE} {μ : Mu} {Φ : List D → Mu → Prop} (L : List α) (f g : α → D) (p : α → Bool) (hl : L.length ≤ 100000)
    (h : ∀ a ∈ L, ∃ ρb, bl (f a) = some ρb ∧ (∀ Ψ : Bool → Mu → Prop, Ψ (p a) μ → dt ρb μ Ψ) ∧ (p a = true → ∀ Ψ : DK, Ψ (g a) μ → de ρb μ Ψ)) (k : Φ ((L.filter p).map g) μ) : LcD bl dt de (L.map f) μ Φ := by
  refine LcD.intro (fun i acc μ' => acc = ((L.take i).filter p).map g ∧ μ' = μ) ⟨rfl, rfl⟩ ?_ ?_
  · rintro i x acc μ' hx ⟨rfl, rfl⟩
    obtain ⟨a, ha, rfl⟩ := map_get hx
    obtain ⟨ρb, e, ht, hd⟩ := h a (List.mem_of_getElem? ha)
    refine ⟨ρb, e, ht _ ⟨fun hp => hd hp _ (lenOk.mk ?_ ⟨?_, rfl⟩), fun hp => ⟨?_, rfl⟩⟩⟩
    · rw [List.length_map]
      have := List.length_filter_le p (L.take i)
      rw [List.length_take] at this
      omega
    · rw [take_get ha, List.filter_append, List.map_append, List.filter_cons, if_pos hp] <;> rfl
    · rw [take_get ha, List.filter_append, List.map_append, List.filter_cons, if_neg (by rw [hp]; decide)]; simp
  · rintro ys μ' ⟨rfl, rfl⟩
    rw [List.length_map, List.take_of_length_le (Nat.le_refl _)]
    exact k
/-! ### states of the law's own walk -/
def lpI (p : Option Nat) : Int := match p with | none => -1 | some i => (i : Int)
def lK (s : StM) : List Leaf := [.text s.1, .num (lpI s.2)]
def lstD (s : StM) : D := .tup [dS s.1, dI (lpI s.2)]
theorem lK_D (s : StM) : keyD (lK s) = lstD s := rfl
theorem lpI_inj {p q : Option Nat} (h : lpI p = lpI q) : p = q := by
  cases p <;> cases q <;> simp only [lpI] at h
  · rfl
  · exfalso; omega
  · exfalso; omega
  · congr 1; omega
theorem lK_inj {s t : StM} (h : lK s = lK t) : s = t := by
  unfold lK at h
  simp at h
  exact Prod.ext h.1 (lpI_inj h.2)
def fdl (f : StM → D) (ss : List StM) : List (List Leaf × D) := ss.map fun s => (lK s, f s)
theorem fdl_len {f : StM → D} {ss : List StM} : (fdl f ss).length = ss.length := List.length_map ..
theorem look_l {f : StM → D} {s : StM} : ∀ {ss : List StM}, lookD (fdl f ss) (lK s) = if s ∈ ss then some (f s) else none
  | [] => rfl
  | r :: ss => by
    unfold lookD fdl
    rw [List.map_cons, List.find?_cons]
    by_cases h : r = s
    · subst h; simp
    · have h2 : ¬ lK r = lK s := fun z => h (lK_inj z)
      have h3 : ¬ s = r := fun z => h z.symm
      simp only [h2, decide_false]
      have ih := look_l (f := f) (s := s) (ss := ss)
      unfold lookD fdl at ih
      rw [ih]
      simp [h3]
theorem look_l1 {f : StM → D} {s : StM} {ss : List StM} (h : s ∈ ss) : lookD (fdl f ss) (lK s) = some (f s) := by rw [look_l, if_pos h]
theorem put_l2 {f : StM → D} {s : StM} {d : D} {ss : List StM} (h : s ∉ ss) : putD (fdl f ss) (lK s) d = fdl (fupd f s d) (ss ++ [s]) := by
  unfold putD
  rw [look_l, if_neg h]
  unfold fdl
  rw [List.map_append]
  have : ss.map (fun s => (lK s, f s)) = ss.map (fun t => (lK t, fupd f s d t)) := List.map_congr_left fun t ht => by rw [fupd_ne fun z => h (by rw [← z]; exact ht)]
  rw [this]
  simp [fupd_same]
theorem fdl_congr {f g : StM → D} {ss : List StM} (h : ∀ s ∈ ss, f s = g s) : fdl f ss = fdl g ss := List.map_congr_left fun s hs => by rw [h s hs]
theorem lkeys {f : StM → D} {ss : List StM} : (fdl f ss).map (fun kv => keyD kv.1) = ss.map lstD := by unfold fdl; rw [List.map_map] <;> rfl
/-! ### comparable data -/
theorem eqv_nil (ps : List PyData) : PyData.eqv (.list ps) (.list []) = decide (ps = []) := by cases ps <;> simp [PyData.eqv, PyData.eqvAll]
theorem shaped_nil : SeqAt.shaped (PyData.list []) = true := by decide +kernel
theorem toPys_ints : ∀ (A : List Nat), toPys (intsD A) = some (A.map fun (a : Nat) => PyData.int (a : Int))
  | [] => rfl
  | a :: A => by
    show toPys (dI (a : Int) :: intsD A) = _
    unfold toPys
    rw [toPys_ints A]
    simp [toPy]
theorem canLay_ints : ∀ (A : List Nat), PyData.canLayAll0 (A.map fun (a : Nat) => PyData.int (a : Int)) = true ∧ PyData.depthAll (A.map fun (a : Nat) => PyData.int (a : Int)) = 0
  | [] => ⟨rfl, rfl⟩
  | a :: A => by
    obtain ⟨h1, h2⟩ := canLay_ints A
    simp [PyData.canLayAll0, PyData.canLay0, PyData.depthAll, PyData.depth, h1, h2]
theorem shaped_ints (A : List Nat) : SeqAt.shaped (.list (A.map fun (a : Nat) => PyData.int (a : Int))) = true := by
  obtain ⟨h1, h2⟩ := canLay_ints A
  unfold SeqAt.shaped
  simp [PyData.canLay0, PyData.depth, h1, h2]
def stPy (s : StM) : PyData := .tuple [.str s.1, .int (lpI s.2)]
theorem toPys_sts : ∀ (ss : List StM), toPys (ss.map lstD) = some (ss.map stPy)
  | [] => rfl
  | s :: ss => by
    rw [List.map_cons]
    unfold toPys
    rw [toPys_sts ss]
    simp [toPy, toPys, lstD, stPy]
theorem name_strOk {x : Str} (h : nameOk x = true) : PyData.strOk x = true := by
  simp only [nameOk, Bool.and_eq_true] at h
  have h4 := List.all_eq_true.mp h.2
  unfold PyData.strOk
  rw [Array.all_eq_true]
  intro i hi
  have hm : x.cps[i] ∈ x.cps.toList := by simp
  have := of_decide_eq_true (h4 _ hm)
  have all : ∀ c ∈ lettersS.cps.toList, c < 0x110000 := by decide +kernel
  exact decide_eq_true (all _ this)
theorem canLay_sts : ∀ (ss : List StM), (∀ s ∈ ss, nameOk s.1 = true) → PyData.canLayAll0 (ss.map stPy) = true ∧ PyData.depthAll (ss.map stPy) ≤ 1
  | [], _ => ⟨rfl, by decide⟩
  | s :: ss, h => by
    obtain ⟨h1, h2⟩ := canLay_sts ss fun t ht => h t (List.mem_cons_of_mem _ ht)
    have hs := name_strOk (h s List.mem_cons_self)
    refine ⟨by simp [PyData.canLayAll0, PyData.canLay0, stPy, h1, hs], ?_⟩
    simp [PyData.depthAll, PyData.depth, stPy]
    omega
theorem shaped_sts {ss : List StM} (h : ∀ s ∈ ss, nameOk s.1 = true) : SeqAt.shaped (.list (ss.map stPy)) = true := by
  obtain ⟨h1, h2⟩ := canLay_sts ss h
  unfold SeqAt.shaped
  simp [PyData.canLay0, PyData.depth, h1]
  omega
/-! ### the law's own rounds -/
def regB (pick : Str) (p : Option Nat) (n x : Nat) : Bool := decide ((regM pick p n).1 ≤ x ∧ x < (regM pick p n).2)
theorem find_head {α : Type} {f : α → Bool} : ∀ {xs : List α}, xs.find? f = (xs.filter f).head?
  | [] => rfl
  | x :: xs => by
    rw [List.find?_cons, List.filter_cons]
    cases h : f x
    · simpa using find_head
    · rfl
theorem reg_filter {L A : List Nat} {pick : Str} {p : Option Nat} {n : Nat} (hL : L.Pairwise (· < ·)) (hm : ∀ x, x ∈ L ↔ x < n ∧ regB pick p n x = true) (hA : A.Pairwise (· < ·)) (hn : ∀ x ∈ A, x < n) : L.filter (fun x => decide (x ∈ A)) = A.filter (regB pick p n) := by
  refine srt_uniq (List.Pairwise.filter _ hL) (List.Pairwise.filter _ hA) fun x => ?_
  rw [List.mem_filter, List.mem_filter, hm, decide_eq_true_eq]
  constructor
  · rintro ⟨⟨_, h1⟩, h2⟩; exact ⟨h2, h1⟩
  · rintro ⟨h1, h2⟩; exact ⟨⟨hn x h1, h2⟩, h1⟩
def lotsN : Nat → List (List Nat)
  | 0 => [[]]
  | n + 1 => lotsN n ++ (lotsN n).map fun A => A ++ [n]
theorem lots_mem : ∀ {n : Nat} {A : List Nat}, A ∈ lotsN n ↔ A.Pairwise (· < ·) ∧ ∀ x ∈ A, x < n
  | 0, A => by
    show A ∈ [[]] ↔ _
    rw [List.mem_singleton]
    constructor
    · rintro rfl; exact ⟨.nil, fun x hx => nomatch hx⟩
    · rintro ⟨_, h⟩
      cases A with
      | nil => rfl
      | cons x A => exact absurd (h x List.mem_cons_self) (Nat.not_lt_zero x)
  | n + 1, A => by
    show A ∈ lotsN n ++ (lotsN n).map (fun A => A ++ [n]) ↔ _
    rw [List.mem_append, List.mem_map, lots_mem]
    constructor
    · rintro (⟨h1, h2⟩ | ⟨B, h1, rfl⟩)
      · exact ⟨h1, fun x hx => by have := h2 x hx; omega⟩
      · obtain ⟨h1, h2⟩ := lots_mem.mp h1
        refine ⟨List.pairwise_append.mpr ⟨h1, by simp, fun x hx y hy => ?_⟩, fun x hx => ?_⟩
        · rw [List.mem_singleton.mp hy]; exact h2 x hx
        · rcases List.mem_append.mp hx with z | z
          · have := h2 x z; omega
          · rw [List.mem_singleton.mp z]; omega
    · rintro ⟨h1, h2⟩
      by_cases hn : n ∈ A
      · right
        refine ⟨A.filter fun x => decide (x < n), lots_mem.mpr ⟨List.Pairwise.filter _ h1, fun x hx => of_decide_eq_true (List.mem_filter.mp hx).2⟩, ?_⟩
        refine srt_uniq (List.pairwise_append.mpr ⟨List.Pairwise.filter _ h1, by simp, fun x hx y hy => ?_⟩) h1 fun x => ?_
        · rw [List.mem_singleton.mp hy]; exact of_decide_eq_true (List.mem_filter.mp hx).2
        · rw [List.mem_append, List.mem_filter, List.mem_singleton, decide_eq_true_eq]
          constructor
          · rintro (⟨h, _⟩ | rfl)
            · exact h
            · exact hn
          · intro h
            have := h2 x h
            by_cases e : x = n
            · exact .inr e
            · exact .inl ⟨h, by omega⟩
      · left
        refine ⟨h1, fun x hx => ?_⟩
        have := h2 x hx
        have : x ≠ n := fun z => hn (z ▸ hx)
        omega
theorem lotsN_len : ∀ n, (lotsN n).length = 2 ^ n
  | 0 => rfl
  | n + 1 => by
    show (lotsN n ++ (lotsN n).map (fun A => A ++ [n])).length = _
    rw [List.length_append, List.length_map, lotsN_len n, Nat.pow_succ]; omega
/-- who is granted, each once, ascending -/
def gsM (rows : List RowM) (s : StM) (n : Nat) (A : List Nat) : List Nat := (List.range n).filter fun x => decide (x ∈ (roundM rows s n A).grs)
theorem gs_srt {rows : List RowM} {s : StM} {n : Nat} {A : List Nat} (hn : ∀ x ∈ A, x < n) : SrtOf (roundM rows s n A).grs (gsM rows s n A) := by
  refine ⟨List.Pairwise.filter _ List.pairwise_lt_range, fun a => ?_⟩
  unfold gsM
  rw [List.mem_filter, List.mem_range, decide_eq_true_eq]
  exact ⟨fun h => h.2, fun h => ⟨hn a (grs_mem a h), h⟩⟩
theorem gs_uniq {rows : List RowM} {s : StM} {n : Nat} {A gs : List Nat} (hn : ∀ x ∈ A, x < n) (h : SrtOf (roundM rows s n A).grs gs) : gs = gsM rows s n A :=
  srt_uniq h.1 (gs_srt hn).1 fun x => (h.2 x).trans ((gs_srt hn).2 x).symm
end K3
set_option Elab.async false
set_option linter.all false
set_option maxRecDepth 100000
set_option maxHeartbeats 800000
set_option pp.maxSteps 600
/-! KG24: rules made, read, told. -/
namespace K3
open PySem PySem.Spec PyProof.Rows L2
def S_rule_text : DSp := fun xs μ Φ => ∃ R : RuleM, xs = [.tup [dS R.first, .tup (R.rows.map lrowD)]] ∧ nameOk R.first = true ∧ (∀ r ∈ R.rows, RowOk r) ∧ R.rows.length < 60 ∧ Φ (dS (ruleT R)) μ
abbrev LRule : List Str := ["first", "rows", "modes"]
def S_Rule (K : PySem.W.Frag) : DSp := fun xs μ Φ => ∃ (p : Addr) (R : RuleM), xs = [dR p, dS R.first, .lst (R.rows.map (rowD K))] ∧ μ p = some (.ob (He.ga K "Rule") [] []) ∧ nameOk R.first = true ∧ R.rows.length < 60 ∧
  ∀ μ' md, (∀ a, a ≠ p → μ' a = μ a) → μ' p = some (.ob (He.ga K "Rule") LRule [dS R.first, .tup (R.rows.map (rowD K)), md]) → Φ dN μ'
theorem sum_le_len {α : Type} {f : α → Nat} {b : Nat} : ∀ {xs : List α}, (∀ x ∈ xs, f x ≤ b) → (xs.map f).sum ≤ xs.length * b
  | [], _ => by simp
  | x :: xs, h => by
    rw [List.map_cons, List.sum_cons, List.length_cons, Nat.succ_mul]
    have := h x List.mem_cons_self
    have := sum_le_len (xs := xs) fun y hy => h y (List.mem_cons_of_mem _ hy)
    omega
section
variable {P : Program} {w : World} {K : PySem.W.Frag} {mg : Str → Option Value} {base : Heap}
theorem sc__law_rule_text : FnScope ["_law_rule_here", "_law_row"] ["_law_rule_here"] (defScope (top 64)) := ⟨rfl, rfl, rfl, by decide +kernel, rfl, by decide +kernel, by decide +kernel⟩
theorem G__law_rule_text (T : TF w K mg) (F : FnP K "_law_rule_text" "_law_rule_text" (top 64) (He.ga K "_law_rule_text")) (hm : mg "_law_rule_text" = some (.ref (He.ga K "_law_rule_text"))) (G__law_row_text : FnG P w K mg base "_law_row_text" ["_law_row"] 1 (S_row_text)) : FnG P w K mg base "_law_rule_text" ["_law_rule_here"] 2 (S_rule_text) := by
  refine fnG_of F hm sc__law_rule_text (fun _ _ _ _ _ _ us hl => match us, hl with | [_], _ => rfl) ?_ ?_
  · (intro ds μ Φ h; first | (obtain ⟨_, rfl, _⟩ := h; rfl) | (obtain ⟨_, _, rfl, _⟩ := h; rfl) | (obtain ⟨_, _, _, rfl, _⟩ := h; rfl) | (obtain ⟨_, _, _, _, rfl, _⟩ := h; rfl) | (obtain ⟨_, _, _, _, _, rfl, _⟩ := h; rfl) | (obtain ⟨_, _, _, _, _, _, rfl, _⟩ := h; rfl) | (obtain ⟨_, _, _, _, _, _, _, rfl, _⟩ := h; rfl) | (obtain ⟨_, _, _, _, _, _, _, _, rfl, _⟩ := h; rfl) | (obtain ⟨_, _, _, _, _, _, _, _, _, rfl, _⟩ := h; rfl) | (obtain ⟨_, _, _, _, _, _, _, _, _, _, rfl, _⟩ := h; rfl) | (obtain ⟨_, _, _, _, _, _, _, _, _, _, _, rfl, _⟩ := h; rfl) | (obtain ⟨_, _, _, _, _, _, _, _, _, _, _, _, rfl, _⟩ := h; rfl))
  intro f cdv A outer s H E hr
  have nd := sc__law_rule_text.nd
  refine ⟨_, (ss_one (s_ret (q_join q_str (q_op op_catL sim_cat2 (q_lst (a_cons (q_op op_add_str sim_catS q_str (q_ix (q_var 0) q_int)) a_nil)) (q_lc (own := [("_law_row", 1)]) (blk1 1) rfl nd (blkOk_by (own := [("_law_row", 1)]) (by kernel_rfl)) (i_tup (q_ix (q_var 0) q_int)) (fun _ _ _ _ _ => (pg_name (i := 1) nd rfl (.inl rfl))) (fun _ _ _ _ _ => ts_nil) (fun _ _ _ _ _ => (q_call G__law_row_text (hr.mono (by decide)) rfl (a_cons (q_var 1) a_nil)))))))), ?_⟩
  clear hr nd F hm
  rintro _ μ Φ ⟨R, rfl, hf, hr, hl, h⟩
  have hfl := (name_free hf).2.2
  have e6 : ("first " : Str).length = 6 := rfl
  have e1 : ("\n" : Str).length = 1 := rfl
  (conv => whnf)
  refine lenOk.mk (by first | omega | (simp; done) | (simp; omega) | decide) ?_
  (conv => whnf)
  refine LcD.mapG R.rows lrowD (fun r => dS (rowT r)) (by omega) (fun r hrm => ⟨_, rfl, fun Ψ hΨ => ⟨r, rfl, hr r hrm, hΨ⟩⟩) ?_
  (conv => whnf)
  refine ⟨rfl, rfl, ?_⟩
  (conv => whnf)
  refine lenOk.mk (by first | omega | (simp; done) | (simp; omega) | decide) ?_
  (conv => whnf)
  refine ⟨linesM R, ?_, ?_, ?_⟩
  · rw [firstT_eq]; unfold linesM; rw [List.map_cons, List.map_map] <;> rfl
  · unfold linesM
    rw [List.map_cons, List.map_map, List.length_cons, List.length_map, e1, List.sum_cons]
    have h1 : (Txt.join (" " : Str) [("first" : Str), R.first]).length ≤ 60 := by
      rw [← firstT_eq, show (("first " : Str) ++ R.first).length = ("first " : Str).length + R.first.length from Str.length_append _ _]; omega
    have h2 : (R.rows.map ((fun x : Str => x.length) ∘ rowT)).sum ≤ R.rows.length * 50 := sum_le_len fun r hrm => row_len (hr r hrm)
    omega
  · exact ⟨_, fun _ _ e => e, h⟩
theorem sc_Rule___init__ : FnScope ["self", "first", "rows", "names", "row", "name"] ["self", "first", "rows"] (defScope (inClass (top 54) 0)) := ⟨rfl, rfl, rfl, by decide +kernel, rfl, by decide +kernel, by decide +kernel⟩
theorem B_Rule___init__ (T : TF w K mg) (G_is_name : FnG P w K mg base "is_name" ["value"] 1 (S_is_name)) (G_is_sequence : FnG P w K mg base "is_sequence" ["value"] 1 (S_is_sequence)) : ∀ {f : Addr} {cdv : Value} {A : Around} {outer : List Env} {s : Shared} {H : Hp} {E : XK}, Room 1 (A.deeper (envOfC "Rule.__init__" (defScope (inClass (top 54) 0)) s.heap.objs.size f cdv)) → ∃ ds, QSs (cxOf CX0 P w K mg base ["self", "first", "rows", "names", "row", "name"] "Rule.__init__" (defScope (inClass (top 54) 0)) f cdv A outer s H E).nox (defBody (inClass (top 54) 0)) ds ∧ ∀ args μ Φ, ((S_Rule K) : DSp) args μ Φ → ds (endD μ Φ) (startD (["self", "first", "rows", "names", "row", "name"] : List Str).length args) μ := by
  intro f cdv A outer s H E hr
  have nd := sc_Rule___init__.nd
  refine ⟨_, (ss_cons (s_if (t_not (t_val (q_call G_is_name (hr.mono (by decide)) rfl (a_cons (q_var 1) a_nil)))) (ss_one s_never) ss_nil)
      (ss_cons (s_if (t_w (w_or (t_not (t_val (q_call G_is_sequence (hr.mono (by decide)) rfl (a_cons (q_var 2) a_nil)))) (w_or1 (t_not (t_val (q_cb (cr_all rfl) sim_all rfl (T.free "all" (by simp)) (by decide +kernel) (a_cons (q_lc (own := [("row", 4)]) (blk1 4) rfl nd (blkOk_by (own := [("row", 4)]) (by kernel_rfl)) (i_seq (q_var 2)) (fun _ _ _ _ _ => (pg_name (i := 4) nd rfl (.inl rfl))) (fun _ _ _ _ _ => ts_nil) (fun _ _ _ _ _ => (q_cb call_isi (sim_isO _ T.rowI T.rowN) rfl (T.free "isinstance" (by simp)) (by decide +kernel) (a_cons (q_var 4) (a_cons (q_gR rfl T.row.g) a_nil))))) a_nil))))))) (ss_one s_never) ss_nil)
      (ss_cons (s_fldNew (He.ga K "Rule") [] T.rule.cl (T.rule.na _ (by simp)) (by decide) (by decide) (q_var 1) (q_var 0))
      (ss_cons (s_fldNew (He.ga K "Rule") ["first"] T.rule.cl (T.rule.na _ (by simp)) (by decide) (by decide) (q_cty call_tuple_of sim_tuple rfl (T.free "tuple" (by simp)) (by decide +kernel) (a_cons (q_var 2) a_nil)) (q_var 0))
      (ss_cons (s_set 3 nd (q_lst (a_cons (q_var 1) (a_star (q_lc (own := [("row", 4)]) (blk1 4) rfl nd (blkOk_by (own := [("row", 4)]) (by kernel_rfl)) (i_seq (q_var 2)) (fun _ _ _ _ _ => (pg_name (i := 4) nd rfl (.inl rfl))) (fun _ _ _ _ _ => ts_nil) (fun _ _ _ _ _ => (q_fld (He.ga K "Row") ["mode", "pick", "move", "then", "also"] 0 T.row.cl (T.row.na _ (by simp)) (q_var 4)))) (a_star (q_lc (own := [("row", 4)]) (blk1 4) rfl nd (blkOk_by (own := [("row", 4)]) (by kernel_rfl)) (i_seq (q_var 2)) (fun _ _ _ _ _ => (pg_name (i := 4) nd rfl (.inl rfl))) (fun _ _ _ _ _ => ts_nil) (fun _ _ _ _ _ => (q_fld (He.ga K "Row") ["mode", "pick", "move", "then", "also"] 3 T.row.cl (T.row.na _ (by simp)) (q_var 4)))) a_nil)))))
      (ss_one (s_fldNew (He.ga K "Rule") ["first", "rows"] T.rule.cl (T.rule.na _ (by simp)) (by decide) (by decide) (q_cty call_tuple_of sim_tuple rfl (T.free "tuple" (by simp)) (by decide +kernel) (a_cons (q_sortTx rfl rfl (T.free "sorted" (by simp)) rfl (T.free "set" (by simp)) (q_lc (own := [("name", 5)]) (blk1 5) rfl nd (blkOk_by (own := [("name", 5)]) (by kernel_rfl)) (i_list (q_var 3)) (fun _ _ _ _ _ => (pg_name (i := 5) nd rfl (.inl rfl))) (fun _ _ _ _ _ => ts_nil) (fun _ _ _ _ _ => (q_cty SkE.call_str_str sim_str rfl (T.free "str" (by simp)) (by decide +kernel) (a_cons (q_var 5) a_nil))))) a_nil)) (q_var 0)))))))), ?_⟩
  rintro _ μ Φ ⟨p, R, rfl, hp, hf, hl, h⟩
  (conv => whnf)
  refine ⟨R.first, rfl, hf, ?_⟩
  (conv => whnf)
  refine ⟨fun z => (ft_ z).elim, fun _ => ?_⟩
  (conv => whnf)
  refine ⟨false, _, rfl, ?_⟩
  (conv => whnf)
  refine ⟨fun z => (ft_ z).elim, fun _ => ?_⟩
  (conv => whnf)
  refine Or.inl ?_
  (conv => whnf)
  refine LcD.mapG R.rows (rowD K) (fun _ => dB true) (by omega) (fun r hrm => ⟨_, rfl, fun Ψ hΨ => ?_⟩) ?_
  · (conv => whnf)
    exact ⟨rfl, rfl, hΨ⟩
  (conv => whnf)
  refine ⟨List.replicate R.rows.length true, by simp [List.map_const'], ?_⟩
  rw [show ((List.replicate R.rows.length true).all id) = true by simp]
  (conv => whnf)
  refine ⟨fun z => (ft_ z).elim, fun _ => ?_⟩
  (conv => whnf)
  refine ⟨[], hp, ?_⟩
  (conv => whnf)
  refine ⟨_, mup_same, ?_⟩
  (conv => whnf)
  refine Or.inl ?_
  (conv => whnf)
  refine LcD.mapG R.rows (rowD K) (fun r => dS r.mode) (by omega) (fun r hrm => ⟨_, rfl, fun Ψ hΨ => ?_⟩) ?_
  · (conv => whnf)
    exact ⟨rfl, rfl, hΨ⟩
  (conv => whnf)
  refine Or.inl ?_
  (conv => whnf)
  refine LcD.mapG R.rows (rowD K) (fun r => dS r.thn) (by omega) (fun r hrm => ⟨_, rfl, fun Ψ hΨ => ?_⟩) ?_
  · (conv => whnf)
    exact ⟨rfl, rfl, hΨ⟩
  (conv => whnf)
  refine lenOk.mk (by first | omega | (simp; done) | (simp; omega) | decide) ?_
  (conv => whnf)
  have hn : dS R.first :: (R.rows.map (fun r => dS r.mode) ++ (R.rows.map (fun r => dS r.thn) ++ [])) = (R.first :: (R.rows.map (·.mode) ++ R.rows.map (·.thn))).map dS := by rw [List.map_cons, List.map_append, List.map_map, List.map_map, List.append_nil] <;> rfl
  rw [hn]
  refine LcD.mapG (R.first :: (R.rows.map (·.mode) ++ R.rows.map (·.thn))) dS dS (by simp; omega) (fun r hrm => ⟨_, rfl, fun Ψ hΨ => hΨ⟩) ?_
  (conv => whnf)
  refine ⟨_, rfl, by simp; omega, fun ys hys => ?_⟩
  (conv => whnf)
  refine ⟨_, mup_same, ?_⟩
  (conv => whnf)
  refine ⟨_, fun _ _ e => e, h _ _ (fun a ha => ?_) mup_same⟩
  rw [mup_ne ha, mup_ne ha, mup_ne ha]
end
end K3
set_option Elab.async false
set_option linter.all false
set_option maxRecDepth 100000
set_option maxHeartbeats 800000
set_option pp.maxSteps 600
/-! KG25: rules read. -/
namespace K3
open PySem PySem.Spec PyProof.Rows L2
def S_read (K : PySem.W.Frag) : DSp := fun xs μ Φ => ∃ R : RuleM, xs = [dR (He.ga K "Rule"), dS (ruleT R)] ∧ nameOk R.first = true ∧ (∀ r ∈ R.rows, RowOk r) ∧ R.rows.length < 60 ∧ ∀ md, Φ (ruleD K R md) μ
def S_home (K : PySem.W.Frag) : DSp := fun xs μ Φ => ∃ R : RuleM, xs = [.tup [dS R.first, .tup (R.rows.map lrowD)]] ∧ nameOk R.first = true ∧ (∀ r ∈ R.rows, RowOk r) ∧ R.rows.length < 60 ∧ ∀ md, Φ (ruleD K R md) μ
theorem rule_len {R : RuleM} (hf : nameOk R.first = true) (hr : ∀ r ∈ R.rows, RowOk r) (hl : R.rows.length < 60) : (ruleT R).length ≤ 5000 := by
  unfold ruleT
  rw [TL.join_eq]
  refine Nat.le_trans (StrLaws.join_length_le "\n" (linesM R)) ?_
  have e6 : ("first " : Str).length = 6 := rfl
  have e1 : ("\n" : Str).length = 1 := rfl
  have hfl := (name_free hf).2.2
  unfold linesM
  rw [List.map_cons, List.map_map, List.length_cons, List.length_map, e1, List.sum_cons]
  have h1 : (Txt.join (" " : Str) [("first" : Str), R.first]).length ≤ 60 := by
    rw [← firstT_eq, show (("first " : Str) ++ R.first).length = ("first " : Str).length + R.first.length from Str.length_append _ _]; omega
  have h2 : (R.rows.map ((fun x : Str => x.length) ∘ rowT)).sum ≤ R.rows.length * 50 := sum_le_len fun r hrm => row_len (hr r hrm)
  omega
section
variable {P : Program} {w : World} {K : PySem.W.Frag} {mg : Str → Option Value} {base : Heap}
theorem sc_Rule_read : FnScope ["cls", "text", "lines", "first", "rows", "line"] ["cls", "text"] (defScope (inClass (top 54) 1)) := ⟨rfl, rfl, rfl, by decide +kernel, rfl, by decide +kernel, by decide +kernel⟩
theorem B_Rule_read (T : TF w K mg) (G_Rule___init__ : MakeG P w K mg base (He.ga K "Rule") ["self", "first", "rows"] 2 ((S_Rule K))) (G_first_of : FnG P w K mg base "first_of" ["line"] 2 (S_first_of)) (G_row_of : FnG P w K mg base "row_of" ["text"] 4 ((S_row_of K))) (GEq : EqO P w K mg base (He.ga K "Row") 3) : ∀ {f : Addr} {cdv : Value} {A : Around} {outer : List Env} {s : Shared} {H : Hp} {E : XK}, Room 4 (A.deeper (envOfC "Rule.read" (defScope (inClass (top 54) 1)) s.heap.objs.size f cdv)) → ∃ ds, QSs (cxOf CX0 P w K mg base ["cls", "text", "lines", "first", "rows", "line"] "Rule.read" (defScope (inClass (top 54) 1)) f cdv A outer s H E).nox (defBody (inClass (top 54) 1)) ds ∧ ∀ args μ Φ, ((S_read K) : DSp) args μ Φ → ds (endD μ Φ) (startD (["cls", "text", "lines", "first", "rows", "line"] : List Str).length args) μ := by
  intro f cdv A outer s H E hr
  have nd := sc_Rule_read.nd
  refine ⟨_, (ss_cons (s_set 2 nd (q_split (q_var 1) q_str))
      (ss_cons (s_set 3 nd (q_call G_first_of (hr.mono (by decide)) rfl (a_cons (q_ix (q_var 2) q_int) a_nil)))
      (ss_cons (s_if (t_isN (q_var 3)) (ss_one s_never) ss_nil)
      (ss_cons (s_setLc 4 (own := [("line", 5)]) (blk1 5) rfl nd (blkOk_by (own := [("line", 5)]) (by kernel_rfl)) rfl (sw_true rfl rfl rfl (by decide +kernel)) (i_list (q_slF (q_var 2) (o_some q_int) o_none)) (fun _ _ _ _ _ => (pg_name (i := 5) nd rfl (.inl rfl))) (fun _ _ _ _ _ => ts_nil) (fun _ _ _ _ _ => (q_call G_row_of (hr.mono (by decide)) rfl (a_cons (q_var 5) a_nil))))
      (ss_cons (s_if (t_noneIn GEq (hr.mono (by decide)) q_non (q_var 4)) (ss_one s_never) ss_nil)
      (ss_one (s_ret (q_makeLF 0 G_Rule___init__ (hr.mono (by decide)) (a_cons (q_var 3) (a_cons (q_var 4) a_nil)))))))))), ?_⟩
  rintro _ μ Φ ⟨R, rfl, hf, hr, hl, h⟩
  have hsp := split_rule hf hr
  have hlen := rule_len hf hr hl
  (conv => whnf)
  refine ⟨rfl, lenOk.mk (by first | omega | (simp; done) | (simp; omega) | decide) ?_⟩
  rw [hsp]
  have e0 : atI ((linesM R).map dS) (0 : Int) = some (dS (Txt.join " " [("first" : Str), R.first])) := atI_nat (i := 0) (by unfold linesM; rw [List.map_cons] <;> rfl)
  (conv => whnf)
  (split; rotate_left; (rename_i e_; exact nomatch ((e0).symm.trans e_)); rename_i ts_ e_; cases ((e0).symm.trans e_))
  (conv => whnf)
  refine ⟨R.first, rfl, hf, ?_⟩
  (conv => whnf)
  refine ⟨fun z => (ft_ z).elim, fun _ => ?_⟩
  (conv => whnf)
  have ecut : cutD ((linesM R).map dS) (some 1) none = R.rows.map (fun r => dS (rowT r)) := by
    unfold cutD
    rw [HT.sIx_none, show HT.sIx ((linesM R).map dS).length 0 (some 1) = 1 from by
      rw [show (1 : Int) = ((1 : Nat) : Int) from rfl, HT.sIx_nat]; unfold linesM; simp]
    unfold linesM
    simp only [List.map_cons, List.drop_succ_cons, List.drop_zero, List.length_cons, Nat.add_sub_cancel, List.map_map]
    rw [List.take_of_length_le (by simp)] <;> rfl
  rw [ecut]
  refine LcD.mapG R.rows _ (rowD K) (by omega) (fun r hrm => ⟨_, rfl, fun Ψ hΨ => ⟨r, rfl, hr r hrm, hΨ⟩⟩) ?_
  (conv => whnf)
  refine ⟨rfl, ?_⟩
  (conv => whnf)
  refine ⟨fun d hd => ?_, ?_⟩
  · obtain ⟨r, _, rfl⟩ := List.mem_map.mp hd
    exact .inr ⟨_, _, rfl⟩
  have eany : (R.rows.map (rowD K)).any nonD = false := by
    rw [List.any_map, List.any_eq_false]
    intro r _ z
    cases z
  rw [eany]
  (conv => whnf)
  refine ⟨fun z => (ft_ z).elim, fun _ => ?_⟩
  (conv => whnf)
  refine ⟨⟨_, rfl, rfl⟩, ?_⟩
  (conv => whnf)
  intro p hp
  refine ⟨p, R, rfl, mup_same, hf, hl, fun μ' md hm hmp => ⟨rfl, _, hmp, μ, fun a o e => ?_, h md⟩⟩
  have ne : a ≠ p := fun z => by rw [z, hp] at e; cases e
  rw [mdel_ne ne, hm a ne, mup_ne ne]; exact e
theorem sc__law_home : FnScope ["_law_rule_here"] ["_law_rule_here"] (defScope (top 74)) := ⟨rfl, rfl, rfl, by decide +kernel, rfl, by decide +kernel, by decide +kernel⟩
theorem G__law_home (T : TF w K mg) (F : FnP K "_law_home" "_law_home" (top 74) (He.ga K "_law_home")) (hm : mg "_law_home" = some (.ref (He.ga K "_law_home"))) (G_Rule_read : CMethG P w K mg base (He.ga K "Rule") (.type "type") "read" ["cls", "text"] 5 ((S_read K))) (G__law_rule_text : FnG P w K mg base "_law_rule_text" ["_law_rule_here"] 2 (S_rule_text)) : FnG P w K mg base "_law_home" ["_law_rule_here"] 6 ((S_home K)) := by
  refine fnG_of F hm sc__law_home (fun _ _ _ _ _ _ us hl => match us, hl with | [_], _ => rfl) ?_ ?_
  · (intro ds μ Φ h; first | (obtain ⟨_, rfl, _⟩ := h; rfl) | (obtain ⟨_, _, rfl, _⟩ := h; rfl) | (obtain ⟨_, _, _, rfl, _⟩ := h; rfl) | (obtain ⟨_, _, _, _, rfl, _⟩ := h; rfl) | (obtain ⟨_, _, _, _, _, rfl, _⟩ := h; rfl) | (obtain ⟨_, _, _, _, _, _, rfl, _⟩ := h; rfl) | (obtain ⟨_, _, _, _, _, _, _, rfl, _⟩ := h; rfl) | (obtain ⟨_, _, _, _, _, _, _, _, rfl, _⟩ := h; rfl) | (obtain ⟨_, _, _, _, _, _, _, _, _, rfl, _⟩ := h; rfl) | (obtain ⟨_, _, _, _, _, _, _, _, _, _, rfl, _⟩ := h; rfl) | (obtain ⟨_, _, _, _, _, _, _, _, _, _, _, rfl, _⟩ := h; rfl) | (obtain ⟨_, _, _, _, _, _, _, _, _, _, _, _, rfl, _⟩ := h; rfl))
  intro f cdv A outer s H E hr
  have nd := sc__law_home.nd
  refine ⟨_, (ss_one (s_ret (q_cmeth (He.ga K "Rule") (q_gR rfl T.rule.g) G_Rule_read (hr.mono (by decide)) (a_cons (q_call G__law_rule_text (hr.mono (by decide)) rfl (a_cons (q_var 0) a_nil)) a_nil)))), ?_⟩
  clear hr nd F hm
  rintro _ μ Φ ⟨R, rfl, hf, hr, hl, h⟩
  (conv => whnf)
  refine ⟨rfl, ?_⟩
  (conv => whnf)
  refine ⟨R, rfl, hf, hr, hl, ?_⟩
  (conv => whnf)
  refine ⟨R, rfl, hf, hr, hl, fun md => ⟨_, fun _ _ e => e, h md⟩⟩
end
end K3
set_option Elab.async false
set_option linter.all false
set_option maxRecDepth 100000
set_option maxHeartbeats 800000
set_option pp.maxSteps 600
/-! KG26: the seed; regions. -/
namespace K3
open PySem PySem.Spec PyProof.Rows L2
def S_seed : DSp := fun xs μ Φ => ∃ (ns : List Int) (k : Nat), xs = [.lst (ns.map dI), dI (k : Int)] ∧ ns.length < 1000 ∧ k < 100 ∧ ∀ (l : Addr) (a b : Int), μ l = none → Φ (dR l) (mup μ l (boxO a b))
def S_law_region : DSp := fun xs μ Φ => ∃ (pick : Str) (p : Option Nat) (n : Nat), xs = [dS pick, dI (lpI p), dI (n : Int)] ∧ n < 100 ∧ (∀ i, p = some i → i < n) ∧ ∀ L : List Nat, L.Pairwise (· < ·) → (∀ x, x ∈ L ↔ x < n ∧ regB pick p n x = true) → Φ (.lst (intsD L)) μ
theorem rngN (n : Nat) : rngD 0 ((n : Nat) : Int).toNat = intsD (List.range n) := by
  unfold rngD intsD
  rw [Int.toNat_natCast]
  refine List.map_congr_left fun x _ => ?_
  rw [Int.zero_add]
section
variable {P : Program} {w : World} {K : PySem.W.Frag} {mg : Str → Option Value} {base : Heap}
theorem sc__law_seed : FnScope ["_law_script", "_law_k", "_law_cell"] ["_law_script", "_law_k"] (defScope (top 56)) := ⟨rfl, rfl, rfl, by decide +kernel, rfl, by decide +kernel, by decide +kernel⟩
theorem G__law_seed (T : TF w K mg) (F : FnP K "_law_seed" "_law_seed" (top 56) (He.ga K "_law_seed")) (hm : mg "_law_seed" = some (.ref (He.ga K "_law_seed")))  : FnG P w K mg base "_law_seed" ["_law_script", "_law_k"] 1 (S_seed) := by
  refine fnG_of F hm sc__law_seed (fun _ _ _ _ _ _ us hl => match us, hl with | [_, _], _ => rfl) ?_ ?_
  · (intro ds μ Φ h; first | (obtain ⟨_, rfl, _⟩ := h; rfl) | (obtain ⟨_, _, rfl, _⟩ := h; rfl) | (obtain ⟨_, _, _, rfl, _⟩ := h; rfl) | (obtain ⟨_, _, _, _, rfl, _⟩ := h; rfl) | (obtain ⟨_, _, _, _, _, rfl, _⟩ := h; rfl) | (obtain ⟨_, _, _, _, _, _, rfl, _⟩ := h; rfl) | (obtain ⟨_, _, _, _, _, _, _, rfl, _⟩ := h; rfl) | (obtain ⟨_, _, _, _, _, _, _, _, rfl, _⟩ := h; rfl) | (obtain ⟨_, _, _, _, _, _, _, _, _, rfl, _⟩ := h; rfl) | (obtain ⟨_, _, _, _, _, _, _, _, _, _, rfl, _⟩ := h; rfl) | (obtain ⟨_, _, _, _, _, _, _, _, _, _, _, rfl, _⟩ := h; rfl) | (obtain ⟨_, _, _, _, _, _, _, _, _, _, _, _, rfl, _⟩ := h; rfl))
  intro f cdv A outer s H E hr
  have nd := sc__law_seed.nd
  refine ⟨_, (ss_cons (s_set 2 nd (q_add (q_mul q_int (q_var 1)) q_int))
      (ss_cons (s_if (t_lt (q_var 1) (q_cb call_len_seq sim_len rfl (T.free "len" (by simp)) (by decide +kernel) (a_cons (q_var 0) a_nil))) (ss_one (s_set 2 nd (q_cb call_abs sim_abs rfl (T.free "abs" (by simp)) (by decide +kernel) (a_cons (q_ix (q_var 0) (q_var 1)) a_nil)))) (ss_one (s_if (t_gt (q_cb call_len_seq sim_len rfl (T.free "len" (by simp)) (by decide +kernel) (a_cons (q_var 0) a_nil)) q_int) (ss_one (s_set 2 nd (q_add (q_var 2) (q_mul (q_mod (q_cty call_int1 sim_int rfl (T.free "int" (by simp)) (by decide +kernel) (a_cons (q_cb call_abs sim_abs rfl (T.free "abs" (by simp)) (by decide +kernel) (a_cons (q_ix (q_var 0) (q_mod (q_cty call_int1 sim_int rfl (T.free "int" (by simp)) (by decide +kernel) (a_cons (q_var 1) a_nil)) (q_cb call_len_seq sim_len rfl (T.free "len" (by simp)) (by decide +kernel) (a_cons (q_var 0) a_nil)))) a_nil)) a_nil)) q_int) q_int)))) ss_nil)))
      (ss_one (s_ret (q_lstM (a_cons (q_if (t_ge (q_var 2) (q_pow q_int q_int)) (q_var 2) q_int) (a_cons (q_add (q_mod (q_cty call_int1 sim_int rfl (T.free "int" (by simp)) (by decide +kernel) (a_cons (q_add (q_mul (q_mod (q_cty call_int1 sim_int rfl (T.free "int" (by simp)) (by decide +kernel) (a_cons (q_var 2) a_nil)) q_int) q_int) (q_mul q_int (q_var 1))) a_nil)) q_int) q_int) a_nil))))))), ?_⟩
  clear hr nd F hm
  rintro _ μ Φ ⟨ns, k, rfl, hl, hk, h⟩
  have cpow18 : CPow 10 18 := ⟨by decide, by decide, by decide⟩
  (conv => whnf)
  refine ⟨.inl ⟨by decide, by decide⟩, ?_⟩
  (conv => whnf)
  refine ⟨fun hc => ?_, fun hc => ?_⟩
  · have hk2 : k < ns.length := by
      have := of_decide_eq_true hc
      rw [List.length_map] at this
      omega
    have e0 : atI (ns.map dI) (k : Int) = some (dI (ns[k]'hk2)) := atI_nat (by rw [List.getElem?_map, List.getElem?_eq_getElem hk2] <;> rfl)
    (conv => whnf)
    (split; rotate_left; (rename_i e_; exact nomatch ((e0).symm.trans e_)); rename_i ts_ e_; cases ((e0).symm.trans e_))
    (conv => whnf)
    refine ⟨cpow18, ?_⟩
    (conv => whnf)
    refine ⟨fun _ => ?_, fun _ => ?_⟩
    all_goals
      (conv => whnf)
      refine ⟨(by decide : (0 : Int) < 2147483629), ?_⟩
      (conv => whnf)
      refine ⟨.inr ⟨by decide, by decide⟩, ?_⟩
      (conv => whnf)
      refine ⟨.inl ⟨by decide, by decide⟩, ?_⟩
      (conv => whnf)
      refine ⟨(by decide : (0 : Int) < 2147483629), ?_⟩
      (conv => whnf)
      intro l hl
      exact ⟨_, fun _ _ e => e, h l _ _ hl⟩
  · (conv => whnf)
    refine ⟨fun hc2 => ?_, fun hc2 => ?_⟩
    · have hpos : 0 < ns.length := by
        have := of_decide_eq_true hc2
        rw [List.length_map] at this
        omega
      obtain ⟨j, hj, ej⟩ := mod_nat (x := (k : Int)) hpos
      have e0 : atI (ns.map dI) ((k : Int) % ((ns.map dI).length : Int)) = some (dI (ns[j]'hj)) := by
        rw [List.length_map, ej]
        exact atI_nat (by rw [List.getElem?_map, List.getElem?_eq_getElem hj] <;> rfl)
      (conv => whnf)
      refine ⟨(by rw [List.length_map]; omega : (0 : Int) < ((ns.map dI).length : Int)), ?_⟩
      (conv => whnf)
      (split; rotate_left; (rename_i e_; exact nomatch ((e0).symm.trans e_)); rename_i ts_ e_; cases ((e0).symm.trans e_))
      (conv => whnf)
      refine ⟨(by decide : (0 : Int) < 2147483629), ?_⟩
      (conv => whnf)
      refine ⟨.inr ⟨by decide, by decide⟩, ?_⟩
      (conv => whnf)
      refine ⟨cpow18, ?_⟩
      (conv => whnf)
      refine ⟨fun _ => ?_, fun _ => ?_⟩
      all_goals
        (conv => whnf)
        refine ⟨(by decide : (0 : Int) < 2147483629), ?_⟩
        (conv => whnf)
        refine ⟨.inr ⟨by decide, by decide⟩, ?_⟩
        (conv => whnf)
        refine ⟨.inl ⟨by decide, by decide⟩, ?_⟩
        (conv => whnf)
        refine ⟨(by decide : (0 : Int) < 2147483629), ?_⟩
        (conv => whnf)
        intro l hl
        exact ⟨_, fun _ _ e => e, h l _ _ hl⟩
    · (conv => whnf)
      refine ⟨cpow18, ?_⟩
      (conv => whnf)
      refine ⟨fun _ => ?_, fun _ => ?_⟩
      all_goals
        (conv => whnf)
        refine ⟨(by decide : (0 : Int) < 2147483629), ?_⟩
        (conv => whnf)
        refine ⟨.inr ⟨by decide, by decide⟩, ?_⟩
        (conv => whnf)
        refine ⟨.inl ⟨by decide, by decide⟩, ?_⟩
        (conv => whnf)
        refine ⟨(by decide : (0 : Int) < 2147483629), ?_⟩
        (conv => whnf)
        intro l hl
        exact ⟨_, fun _ _ e => e, h l _ _ hl⟩
theorem sc__law_region : FnScope ["_law_pick", "_law_pointer", "_law_askers", "_law_asker"] ["_law_pick", "_law_pointer", "_law_askers"] (defScope (top 65)) := ⟨rfl, rfl, rfl, by decide +kernel, rfl, by decide +kernel, by decide +kernel⟩
theorem G__law_region (T : TF w K mg) (F : FnP K "_law_region" "_law_region" (top 65) (He.ga K "_law_region")) (hm : mg "_law_region" = some (.ref (He.ga K "_law_region")))  : FnG P w K mg base "_law_region" ["_law_pick", "_law_pointer", "_law_askers"] 1 (S_law_region) := by
  refine fnG_of F hm sc__law_region (fun _ _ _ _ _ _ us hl => match us, hl with | [_, _, _], _ => rfl) ?_ ?_
  · (intro ds μ Φ h; first | (obtain ⟨_, rfl, _⟩ := h; rfl) | (obtain ⟨_, _, rfl, _⟩ := h; rfl) | (obtain ⟨_, _, _, rfl, _⟩ := h; rfl) | (obtain ⟨_, _, _, _, rfl, _⟩ := h; rfl) | (obtain ⟨_, _, _, _, _, rfl, _⟩ := h; rfl) | (obtain ⟨_, _, _, _, _, _, rfl, _⟩ := h; rfl) | (obtain ⟨_, _, _, _, _, _, _, rfl, _⟩ := h; rfl) | (obtain ⟨_, _, _, _, _, _, _, _, rfl, _⟩ := h; rfl) | (obtain ⟨_, _, _, _, _, _, _, _, _, rfl, _⟩ := h; rfl) | (obtain ⟨_, _, _, _, _, _, _, _, _, _, rfl, _⟩ := h; rfl) | (obtain ⟨_, _, _, _, _, _, _, _, _, _, _, rfl, _⟩ := h; rfl) | (obtain ⟨_, _, _, _, _, _, _, _, _, _, _, _, rfl, _⟩ := h; rfl))
  intro f cdv A outer s H E hr
  have nd := sc__law_region.nd
  refine ⟨_, (ss_cons (s_if (t_w (w_or (t_eq (q_var 0) q_str) (w_or1 (t_w (w_and (t_lt (q_var 1) q_int) (w_and1 (t_cmp (op_in_seq) sim_in (q_var 0) (q_tup (a_cons q_str (a_cons q_str a_nil))) (by rfl)))))))) (ss_one (s_ret (q_lrng rfl (T.free "list" (by simp)) rfl (T.free "range" (by simp)) (q_var 2)))) ss_nil)
      (ss_cons (s_if (t_lt (q_var 1) q_int) (ss_one (s_ret (q_lst a_nil))) ss_nil)
      (ss_cons (s_if (t_eq (q_var 0) q_str) (ss_one (s_ret (q_lst (a_cons (q_var 1) a_nil)))) ss_nil)
      (ss_cons (s_if (t_eq (q_var 0) q_str) (ss_one (s_ret (q_lrng rfl (T.free "list" (by simp)) rfl (T.free "range" (by simp)) (q_var 1)))) ss_nil)
      (ss_one (s_ret (q_lc (own := [("_law_asker", 3)]) (blk1 3) rfl nd (blkOk_by (own := [("_law_asker", 3)]) (by kernel_rfl)) (i_range1 rfl (T.free "range" (by simp)) (a_cons (q_var 2) a_nil)) (fun _ _ _ _ _ => (pg_name (i := 3) nd rfl (.inl rfl))) (fun _ _ _ _ _ => (ts_one (t_w (w_or (t_gt (q_var 3) (q_var 1)) (w_or1 (t_w (w_and (t_eq (q_var 0) q_str) (w_and1 (t_eq (q_var 3) (q_var 1)))))))))) (fun _ _ _ _ _ => (q_var 3))))))))), ?_⟩
  clear hr nd F hm
  rintro _ μ Φ ⟨pick, p, n, rfl, hn, hp, h⟩
  have mN : regM pick p n = (0, n) → Φ (.lst (rngD 0 ((n : Nat) : Int).toNat)) μ := fun e => by
    rw [rngN]; exact h _ List.pairwise_lt_range fun x => by unfold regB; rw [e]; simp
  have m0 : regM pick p n = (0, 0) → Φ (.lst []) μ := fun e => h [] .nil fun x => by unfold regB; rw [e]; simp
  have mK : ∀ i, i < n → regM pick p n = (i, i + 1) → Φ (.lst [dI ((i : Nat) : Int)]) μ := fun i hi e => h [i] (by simp) fun x => by unfold regB; rw [e]; simp; omega
  have mU : ∀ i, i < n → regM pick p n = (0, i) → Φ (.lst (rngD 0 ((i : Nat) : Int).toNat)) μ := fun i hi e => by
    rw [rngN]; exact h _ List.pairwise_lt_range fun x => by unfold regB; rw [e]; simp; omega
  have mF : ∀ q : Nat → Bool, (∀ x, x < n → q x = regB pick p n x) → Φ (.lst (((List.range n).filter q).map fun (a : Nat) => dI (a : Int))) μ := fun q e => h _ (List.Pairwise.filter _ List.pairwise_lt_range) fun x => by
    rw [List.mem_filter, List.mem_range]
    exact ⟨fun z => ⟨z.1, (e x z.1) ▸ z.2⟩, fun z => ⟨z.1, (e x z.1).symm ▸ z.2⟩⟩
  clear h
  rcases p with _ | p
  · ((repeat' ((conv => whnf) <;> first | refine And.intro rfl ?_ | (refine And.intro (fun hc => ?_) (fun hc => ?_) <;> first | (exact (tf_ hc).elim) | (exact (ft_ hc).elim) | skip) | refine @Exists.intro Mu _ _ (And.intro (fun _ _ e => e) ?_) | refine @Exists.intro (List V) _ _ (And.intro rfl ?_) | refine @Exists.intro PyData _ _ (And.intro rfl ?_))) <;> (try (conv => whnf)))
    all_goals (first
      | (refine ⟨⟨by omega, by omega⟩, μ, fun _ _ e => e, mN (by simp_all [regM, inV2]; done)⟩; done)
      | (exact m0 (by simp_all [regM, inV2]; done))
      | (exfalso; simp_all [lpI]; done)
      | skip)
  · have hpn := hp p rfl
    have epI : lpI (some p) = (p : Int) := rfl
    ((repeat' ((conv => whnf) <;> first | refine And.intro rfl ?_ | (refine And.intro (fun hc => ?_) (fun hc => ?_) <;> first | (exact (tf_ hc).elim) | (exact (ft_ hc).elim) | skip) | refine @Exists.intro Mu _ _ (And.intro (fun _ _ e => e) ?_) | refine @Exists.intro (List V) _ _ (And.intro rfl ?_) | refine @Exists.intro PyData _ _ (And.intro rfl ?_))) <;> (try (conv => whnf)))
    all_goals (first
      | (refine ⟨⟨by omega, by omega⟩, μ, fun _ _ e => e, mN (by simp_all [regM, inV2]; done)⟩; done)
      | (exact mK p hpn (by simp_all [regM, inV2]; done))
      | (refine ⟨⟨by omega, by omega⟩, μ, fun _ _ e => e, mU p hpn (by simp_all [regM, inV2]; done)⟩; done)
      | (exfalso; simp_all [lpI]; done)
      | skip)
    refine ⟨⟨by omega, by omega⟩, ?_⟩
    rw [rngN]
    refine LcD.filterG (List.range n) (fun (a : Nat) => dI (a : Int)) (fun (a : Nat) => dI (a : Int)) (fun x => decide (p < x) || (decide (pick = "at") && decide (x = p))) (by simp; omega) (fun x hx => ⟨_, rfl, fun Ψ hΨ => ?_, fun _ Ψ hΨ => hΨ⟩) ?_
    · ((repeat' ((conv => whnf) <;> first | refine And.intro rfl ?_ | (refine And.intro (fun hc => ?_) (fun hc => ?_) <;> first | (exact (tf_ hc).elim) | (exact (ft_ hc).elim) | skip) | refine @Exists.intro Mu _ _ (And.intro (fun _ _ e => e) ?_) | refine @Exists.intro (List V) _ _ (And.intro rfl ?_) | refine @Exists.intro PyData _ _ (And.intro rfl ?_))) <;> (try (conv => whnf)))
      all_goals simp_all [lpI]
      · rw [show decide ((x : Int) = (p : Int)) = (decide (p < x) || decide (x = p)) from by rw [Bool.eq_iff_iff]; simp; omega]; exact hΨ
      · rw [show decide (p < x) = false from by simp; omega] at hΨ; exact hΨ
    · refine ⟨μ, fun _ _ e => e, mF _ fun x hx => ?_⟩
      unfold regB regM
      simp_all
      by_cases hat : pick = "at"
      · rw [if_pos hat, Bool.eq_iff_iff]; simp [hat, hx]; omega
      · rw [if_neg hat, Bool.eq_iff_iff]; simp [hat, hx]; omega
end
end K3
set_option Elab.async false
set_option linter.all false
set_option maxRecDepth 100000
set_option maxHeartbeats 800000
set_option pp.maxSteps 800
/-! KG27: a round of the law. -/
namespace K3
open PySem PySem.Spec PyProof.Rows L2
def lruleD (R : RuleM) : D := .tup [dS R.first, .tup (R.rows.map lrowD)]
def S_law_round : DSp := fun xs μ Φ => ∃ (R : RuleM) (s : StM) (n : Nat) (A : List Nat), xs = [lruleD R, lstD s, dI (n : Int), .lst (intsD A)] ∧ R.rows.length < 60 ∧ n < 60 ∧ (∀ i, s.2 = some i → i < n) ∧ A.Pairwise (· < ·) ∧ (∀ x ∈ A, x < n) ∧ ∀ d0, Φ (.tup [d0, tupI (gsM R.rows s n A), lstD (roundM R.rows s n A).beh]) μ
theorem flats_nat (A : List Nat) : flatsD (intsD A) = some ((A.map fun (a : Nat) => (a : Int)).map V.int) := by rw [intsI]; exact flats_int _
theorem inV_nat {x : Nat} {A : List Nat} : inV (.int (x : Int)) ((A.map fun (a : Nat) => (a : Int)).map V.int) = decide (x ∈ A) := by
  rw [inV_int, decide_eq_decide, List.mem_map]
  constructor
  · rintro ⟨a, h1, h2⟩
    have : a = x := by omega
    exact this ▸ h1
  · intro h; exact ⟨x, h, rfl⟩
theorem toPy_ints (A : List Nat) : toPy (.lst (intsD A)) = some (.list (A.map fun (a : Nat) => PyData.int (a : Int))) := by
  unfold toPy; rw [toPys_ints] <;> rfl
section
variable {P : Program} {w : World} {K : PySem.W.Frag} {mg : Str → Option Value} {base : Heap}
theorem sc__law_round : FnScope ["_law_rule_here", "_law_state", "_law_askers", "_law_asking_here", "_law_mode", "_law_pointer", "_law_done", "_law_grants", "_law_behind", "_law_at", "_law_row", "_law_some", "_law_place", "_law_asker"] ["_law_rule_here", "_law_state", "_law_askers", "_law_asking_here"] (defScope (top 66)) := ⟨rfl, rfl, rfl, by decide +kernel, rfl, by decide +kernel, by decide +kernel⟩
theorem G__law_round (T : TF w K mg) (F : FnP K "_law_round" "_law_round" (top 66) (He.ga K "_law_round")) (hm : mg "_law_round" = some (.ref (He.ga K "_law_round"))) (G__law_region : FnG P w K mg base "_law_region" ["_law_pick", "_law_pointer", "_law_askers"] 1 (S_law_region)) : FnG P w K mg base "_law_round" ["_law_rule_here", "_law_state", "_law_askers", "_law_asking_here"] 2 (S_law_round) := by
  refine fnG_of F hm sc__law_round (fun _ _ _ _ _ _ us hl => match us, hl with | [_, _, _, _], _ => rfl) ?_ ?_
  · (intro ds μ Φ h; first | (obtain ⟨_, rfl, _⟩ := h; rfl) | (obtain ⟨_, _, rfl, _⟩ := h; rfl) | (obtain ⟨_, _, _, rfl, _⟩ := h; rfl) | (obtain ⟨_, _, _, _, rfl, _⟩ := h; rfl) | (obtain ⟨_, _, _, _, _, rfl, _⟩ := h; rfl) | (obtain ⟨_, _, _, _, _, _, rfl, _⟩ := h; rfl) | (obtain ⟨_, _, _, _, _, _, _, rfl, _⟩ := h; rfl) | (obtain ⟨_, _, _, _, _, _, _, _, rfl, _⟩ := h; rfl) | (obtain ⟨_, _, _, _, _, _, _, _, _, rfl, _⟩ := h; rfl) | (obtain ⟨_, _, _, _, _, _, _, _, _, _, rfl, _⟩ := h; rfl) | (obtain ⟨_, _, _, _, _, _, _, _, _, _, _, rfl, _⟩ := h; rfl) | (obtain ⟨_, _, _, _, _, _, _, _, _, _, _, _, rfl, _⟩ := h; rfl))
  intro f cdv A outer s H E hr
  have nd := sc__law_round.nd
  refine ⟨_, (ss_cons (s_asg (q_var 1) (g_tup rfl (gs_cons (g_name (i := 4) nd rfl (.inl rfl)) (gs_cons (g_name (i := 5) nd rfl (.inl rfl)) gs_nil))))
      (ss_cons (s_par3 6 7 8 rfl nd (a_cons (q_un un_neg sim_neg q_int) (a_cons (q_lstM a_nil) (a_cons (q_var 1) a_nil))) rfl)
      (ss_cons (s_for PassesOwn.never rfl (i_enumT rfl (T.free "enumerate" (by simp)) (a_cons (q_ix (q_var 0) q_int) a_nil)) (g_tup rfl (gs_cons (g_name (i := 9) nd rfl (.inl rfl)) (gs_cons (g_name (i := 10) nd rfl (.inl rfl)) gs_nil))) (ss_cons (s_setLc 11 (own := [("_law_asker", 13)]) (blk1 13) rfl nd (blkOk_by (own := [("_law_asker", 13)]) (by kernel_rfl)) rfl (sw_true rfl rfl rfl (by decide +kernel)) (i_list (q_call G__law_region (hr.mono (by decide)) rfl (a_cons (q_ix (q_var 10) q_int) (a_cons (q_var 5) (a_cons (q_var 2) a_nil))))) (fun _ _ _ _ _ => (pg_name (i := 13) nd rfl (.inl rfl))) (fun _ _ _ _ _ => (ts_one (t_cmp (op_in_seq) sim_in (q_var 13) (q_var 3) (by rfl)))) (fun _ _ _ _ _ => (q_var 13)))
      (ss_cons (s_if (t_w (w_or (t_ne (q_ix (q_var 10) q_int) (q_var 4)) (w_or (t_cmp (op_eqD hr.units) sim_eqD (q_var 11) (q_lstM a_nil) (nomark _)) (w_or1 (t_w (w_and (t_ge (q_var 6) q_int) (w_and1 (t_not (t_val (q_ix (q_var 10) q_int)))))))))) (ss_one s_cont) ss_nil)
      (ss_cons (s_if (t_cmp (op_notIn_seq) sim_in (q_ix (q_var 11) q_int) (q_var 7) (by rfl)) (ss_one (s_expr (q_lm PySem.F.plainAttrs_list PySem.F.slot_list_append PySem.F.type_list_append mt_append simLm_app lmApp_mono (q_var 7) (a_cons (q_ix (q_var 11) q_int) a_nil)))) ss_nil)
      (ss_one (s_if (t_lt (q_var 6) q_int) (ss_cons (s_par 6 12 rfl nd (a_cons (q_var 9) (a_cons (q_var 5) a_nil)) rfl)
      (ss_cons (s_if (t_ne (q_ix (q_var 10) q_int) q_str) (ss_one (s_set 12 nd (q_if (t_eq (q_ix (q_var 10) q_int) q_str) (q_ix (q_var 11) q_int) (q_un un_neg sim_neg q_int)))) ss_nil)
      (ss_one (s_set 8 nd (q_tup (a_cons (q_ix (q_var 10) q_int) (a_cons (q_var 12) a_nil))))))) ss_nil))))))
      (ss_frz 7 (ss_one (s_ret (q_tup (a_cons (q_var 6) (a_cons (q_cty call_tuple_of sim_tuple rfl (T.free "tuple" (by simp)) (by decide +kernel) (a_cons (q_cb cr_sortedI sim_sort rfl (T.free "sorted" (by simp)) (by decide +kernel) (a_cons (q_lc (own := [("_law_asker", 13)]) (blk1 13) rfl nd (blkOk_by (own := [("_law_asker", 13)]) (by kernel_rfl)) (i_list (q_var 7)) (fun _ _ _ _ _ => (pg_name (i := 13) nd rfl (.inl rfl))) (fun _ _ _ _ _ => ts_nil) (fun _ _ _ _ _ => (q_cty call_int1 sim_int rfl (T.free "int" (by simp)) (by decide +kernel) (a_cons (q_var 13) a_nil)))) a_nil)) a_nil)) (a_cons (q_var 8) a_nil)))))))))), ?_⟩
  clear hr nd F hm
  rintro _ μ Φ ⟨R, s0, n, A0, rfl, hrl, hn, hp, hA, hAn, h⟩
  (conv => whnf)
  intro l hl
  (conv => whnf)
  refine ⟨fun i ρ μ' => ∃ (c : Acc) (G : List Nat), (∀ a o, μ a = some o → μ' a = some o) ∧ μ' l = some (.lst (intsD G)) ∧ (∀ x, x ∈ G ↔ x ∈ c.grs) ∧ G.Nodup ∧ G.length ≤ i ∧ rdM s0 n A0 (R.rows.drop i) i c = roundM R.rows s0 n A0 ∧
    ∃ d9 d10 d11 d12 d13, ρ = [some (lruleD R), some (lstD s0), some (dI (n : Int)), some (.lst (intsD A0)), some (dS s0.1), some (dI (lpI s0.2)), some (dI (lpI c.done)), some (dR l), some (lstD c.beh), d9, d10, d11, d12, d13],
    ⟨⟨none, [], s0⟩, [], mup_off hl, mup_same, fun x => Iff.rfl, List.nodup_nil, Nat.le_refl 0, rfl, _, _, _, _, _, rfl⟩, ?_, ?_⟩
  · rintro i x ρ μ' hx ⟨c, G, hm, hml, hG, hGn, hGl, hcc, d9, d10, d11, d12, d13, rfl⟩
    obtain ⟨r, hr, rfl⟩ := enum_get hx
    rw [drop_get hr] at hcc
    have hcc : rdM s0 n A0 (R.rows.drop (i + 1)) (i + 1) (accM s0 n A0 i r c) = roundM R.rows s0 n A0 := hcc
    have hi := (List.getElem?_eq_some_iff.mp hr).1
    (conv => whnf)
    refine ⟨r.pick, s0.2, n, rfl, by omega, hp, fun L hL hLm => ?_⟩
    have hLl : L.length ≤ n := by
      have := nodup_le (m := List.range n) (hL.imp fun h => Nat.ne_of_lt h) fun x hx => List.mem_range.mpr ((hLm x).mp hx).1
      rwa [List.length_range] at this
    (conv => whnf)
    refine LcD.filterG L (fun (a : Nat) => dI (a : Int)) (fun (a : Nat) => dI (a : Int)) (fun x => decide (x ∈ A0)) (by omega) (fun x hx => ⟨_, rfl, fun Ψ hΨ => ?_, fun _ Ψ hΨ => hΨ⟩) ?_
    · (conv => whnf)
      refine ⟨rfl, _, flats_nat A0, ?_⟩
      rw [inV_nat]
      (conv => whnf)
      exact hΨ
    rw [reg_filter hL hLm hA hAn]
    have hFl : (A0.filter (regB r.pick s0.2 n)).length ≤ 100000 := by
      rw [← reg_filter hL hLm hA hAn]
      exact Nat.le_trans (List.length_filter_le _ _) (by omega)
    (conv => whnf)
    refine ⟨rfl, fun hc => ?_, fun hc => ?_⟩
    · have hmode : ¬ r.mode = s0.1 := fun z => by
        have : (!decide (V.str r.mode = V.str s0.1)) = true := hc
        rw [z] at this; simp at this
      have e : accM s0 n A0 i r c = c := by unfold accM hitM; rw [if_neg hmode]
      rw [e] at hcc
      (conv => whnf)
      refine ⟨fun _ => ?_, fun z => (tf_ z).elim⟩
      exact ⟨c, G, hm, hml, hG, hGn, by omega, hcc, _, _, _, _, _, rfl⟩
    · have hmode : r.mode = s0.1 := by
        have : (!decide (V.str r.mode = V.str s0.1)) = false := hc
        simpa using this
      have hit : hitM r s0 n A0 = (A0.filter (regB r.pick s0.2 n)).head? := by
        unfold hitM grM
        rw [if_pos hmode, find_head] <;> rfl
      generalize A0.filter (regB r.pick s0.2 n) = F at hit hFl
      (conv => whnf)
      intro p0 hp0
      have n0l : l ≠ p0 := fun z => by rw [← z, hml] at hp0; cases hp0
      (conv => whnf)
      refine ⟨_, toPy_ints F, [], [], mup_same, rfl, shaped_ints F, shaped_nil, ?_⟩
      rw [eqv_nil]
      have hm2 : ∀ a o, μ a = some o → mup μ' p0 (.lst []) a = some o := fun a o e => mup_off hp0 a o (hm a o e)
      have hml2 : mup μ' p0 (.lst []) l = some (.lst (intsD G)) := (mup_ne n0l).trans hml
      cases F with
      | nil =>
        have e : accM s0 n A0 i r c = c := by unfold accM; rw [hit] <;> rfl
        rw [e] at hcc
        (conv => whnf)
        refine ⟨fun _ => ?_, fun z => (tf_ z).elim⟩
        (conv => whnf)
        refine ⟨fun _ => ?_, fun z => (tf_ z).elim⟩
        exact ⟨c, G, hm2, hml2, hG, hGn, by omega, hcc, _, _, _, _, _, rfl⟩
      | cons g F =>
        have hit : hitM r s0 n A0 = some g := hit
        have e0 : atI (intsD (g :: F)) (0 : Int) = some (dI (g : Int)) := atI_nat (i := 0) (by unfold intsD; rw [List.map_cons] <;> rfl)
        (conv => whnf)
        obtain ⟨cd, cg, cb⟩ := c
        have gl : ∀ gs : List Nat, intsD (gs ++ [g]) = intsD gs ++ [dI (g : Int)] := fun gs => by simp [intsD]
        refine ⟨fun z => by simp at z, fun _ => ?_⟩
        (conv => whnf)
        cases cd with
        | none =>
          have e : accM s0 n A0 i r ⟨none, cg, cb⟩ = ⟨some i, cg ++ [g], (r.thn, behM r s0.2 g)⟩ := by unfold accM; rw [hit]
          rw [e] at hcc
          refine ⟨fun z => by simp [lpI] at z, fun _ => ?_⟩
          (conv => whnf)
          refine ⟨fun z => (ft_ z).elim, fun _ => ?_⟩
          (conv => whnf)
          (split; rotate_left; (rename_i e_; exact nomatch ((e0).symm.trans e_)); rename_i ts_ e_; cases ((e0).symm.trans e_))
          (conv => whnf)
          refine ⟨rfl, _, hml2, _, flats_nat G, ?_⟩
          rw [inV_nat]
          by_cases hgG : g ∈ G
          · rw [decide_eq_true hgG]
            have hG2 : ∀ x, x ∈ G ↔ x ∈ cg ++ [g] := fun x => by
              rw [List.mem_append, List.mem_singleton, hG]
              exact ⟨.inl, fun z => z.elim id fun y => (hG x).mp (y ▸ hgG)⟩
            have hGn2 := hGn
            (conv => whnf)
            refine ⟨fun z => (ft_ z).elim, fun _ => ?_⟩
            (conv => whnf)
            refine ⟨fun _ => ?_, fun z => by simp [lpI] at z⟩
            (conv => whnf)
            refine ⟨rfl, fun hst => ?_, fun hst => ?_⟩
            · have hst : ¬ r.move = "stay" := fun z => by
                have : (!decide (V.str r.move = V.str "stay")) = true := hst
                rw [z] at this; simp at this
              (conv => whnf)
              refine ⟨rfl, fun hon => ?_, fun hon => ?_⟩
              · have hon : r.move = "on" := V.str.inj (of_decide_eq_true hon)
                have eb : behM r s0.2 g = some g := by unfold behM; rw [if_neg hst, if_pos hon]
                rw [eb] at hcc
                (conv => whnf)
                (split; rotate_left; (rename_i e_; exact nomatch ((e0).symm.trans e_)); rename_i ts_ e_; cases ((e0).symm.trans e_))
                exact ⟨_, G, hm2, hml2, hG2, hGn2, (by first | omega | (simp; done) | (simp; omega) | decide), hcc, _, _, _, _, _, rfl⟩
              · have hon : ¬ r.move = "on" := fun z => (of_decide_eq_false hon) (congrArg V.str z)
                have eb : behM r s0.2 g = none := by unfold behM; rw [if_neg hst, if_neg hon]
                rw [eb] at hcc
                exact ⟨_, G, hm2, hml2, hG2, hGn2, (by first | omega | (simp; done) | (simp; omega) | decide), hcc, _, _, _, _, _, rfl⟩
            · have hst : r.move = "stay" := by
                have : (!decide (V.str r.move = V.str "stay")) = false := hst
                simpa using this
              have eb : behM r s0.2 g = s0.2 := by unfold behM; rw [if_pos hst]
              rw [eb] at hcc
              exact ⟨_, G, hm2, hml2, hG2, hGn2, (by first | omega | (simp; done) | (simp; omega) | decide), hcc, _, _, _, _, _, rfl⟩
          · rw [decide_eq_false hgG]
            have hG2 : ∀ x, x ∈ G ++ [g] ↔ x ∈ cg ++ [g] := fun x => by
              rw [List.mem_append, List.mem_append, hG]
            have hGn2 : (G ++ [g]).Nodup := List.nodup_append.mpr ⟨hGn, by simp, fun x hx y hy z => hgG (by rw [← List.mem_singleton.mp hy, ← z]; exact hx)⟩
            (conv => whnf)
            refine ⟨fun _ => ?_, fun z => (tf_ z).elim⟩
            (conv => whnf)
            refine ⟨⟨_, hml2⟩, ?_⟩
            (conv => whnf)
            (split; rotate_left; (rename_i e_; exact nomatch ((e0).symm.trans e_)); rename_i ts_ e_; cases ((e0).symm.trans e_))
            (conv => whnf)
            refine ⟨_, hml2, ?_⟩
            (conv => whnf)
            refine lenOk.mk (by rw [intsD_len]; omega) ?_
            have hml3 : mup (mup μ' p0 (.lst [])) l (.lst (intsD G ++ [dI (g : Int)])) l = some (.lst (intsD (G ++ [g]))) := by rw [mup_same, gl] <;> rfl
            have hm3 : ∀ a o, μ a = some o → mup (mup μ' p0 (.lst [])) l (.lst (intsD G ++ [dI (g : Int)])) a = some o := fun a o e => by
              rw [mup_ne fun z => by rw [z, hl] at e; cases e]; exact hm2 a o e
            (conv => whnf)
            refine ⟨fun _ => ?_, fun z => by simp [lpI] at z⟩
            (conv => whnf)
            refine ⟨rfl, fun hst => ?_, fun hst => ?_⟩
            · have hst : ¬ r.move = "stay" := fun z => by
                have : (!decide (V.str r.move = V.str "stay")) = true := hst
                rw [z] at this; simp at this
              (conv => whnf)
              refine ⟨rfl, fun hon => ?_, fun hon => ?_⟩
              · have hon : r.move = "on" := V.str.inj (of_decide_eq_true hon)
                have eb : behM r s0.2 g = some g := by unfold behM; rw [if_neg hst, if_pos hon]
                rw [eb] at hcc
                (conv => whnf)
                (split; rotate_left; (rename_i e_; exact nomatch ((e0).symm.trans e_)); rename_i ts_ e_; cases ((e0).symm.trans e_))
                exact ⟨_, (G ++ [g]), hm3, hml3, hG2, hGn2, (by first | omega | (simp; done) | (simp; omega) | decide), hcc, _, _, _, _, _, rfl⟩
              · have hon : ¬ r.move = "on" := fun z => (of_decide_eq_false hon) (congrArg V.str z)
                have eb : behM r s0.2 g = none := by unfold behM; rw [if_neg hst, if_neg hon]
                rw [eb] at hcc
                exact ⟨_, (G ++ [g]), hm3, hml3, hG2, hGn2, (by first | omega | (simp; done) | (simp; omega) | decide), hcc, _, _, _, _, _, rfl⟩
            · have hst : r.move = "stay" := by
                have : (!decide (V.str r.move = V.str "stay")) = false := hst
                simpa using this
              have eb : behM r s0.2 g = s0.2 := by unfold behM; rw [if_pos hst]
              rw [eb] at hcc
              exact ⟨_, (G ++ [g]), hm3, hml3, hG2, hGn2, (by first | omega | (simp; done) | (simp; omega) | decide), hcc, _, _, _, _, _, rfl⟩
        | some j =>
          refine ⟨fun _ => ?_, fun z => absurd (of_decide_eq_false z) (by show ¬ ¬ (0 : Int) ≤ (j : Int); omega)⟩
          (conv => whnf)
          cases hal : r.also with
          | false =>
            have e : accM s0 n A0 i r ⟨some j, cg, cb⟩ = ⟨some j, cg, cb⟩ := by unfold accM; rw [hit]; exact if_neg (by rw [hal]; decide)
            rw [e] at hcc
            (conv => whnf)
            refine ⟨fun _ => ?_, fun z => (tf_ z).elim⟩
            exact ⟨_, G, hm2, hml2, hG, hGn, by omega, hcc, _, _, _, _, _, rfl⟩
          | true =>
            have e : accM s0 n A0 i r ⟨some j, cg, cb⟩ = ⟨some j, cg ++ [g], cb⟩ := by unfold accM; rw [hit]; exact if_pos hal
            rw [e] at hcc
            (conv => whnf)
            refine ⟨fun z => (ft_ z).elim, fun _ => ?_⟩
            (conv => whnf)
            (split; rotate_left; (rename_i e_; exact nomatch ((e0).symm.trans e_)); rename_i ts_ e_; cases ((e0).symm.trans e_))
            (conv => whnf)
            refine ⟨rfl, _, hml2, _, flats_nat G, ?_⟩
            rw [inV_nat]
            by_cases hgG : g ∈ G
            · rw [decide_eq_true hgG]
              have hG2 : ∀ x, x ∈ G ↔ x ∈ cg ++ [g] := fun x => by
                rw [List.mem_append, List.mem_singleton, hG]
                exact ⟨.inl, fun z => z.elim id fun y => (hG x).mp (y ▸ hgG)⟩
              have hGn2 := hGn
              (conv => whnf)
              refine ⟨fun z => (ft_ z).elim, fun _ => ?_⟩
              (conv => whnf)
              refine ⟨fun z => absurd (of_decide_eq_true z) (by show ¬ (j : Int) < 0; omega), fun _ => ?_⟩
              exact ⟨_, G, hm2, hml2, hG2, hGn2, (by first | omega | (simp; done) | (simp; omega) | decide), hcc, _, _, _, _, _, rfl⟩
            · rw [decide_eq_false hgG]
              have hG2 : ∀ x, x ∈ G ++ [g] ↔ x ∈ cg ++ [g] := fun x => by
                rw [List.mem_append, List.mem_append, hG]
              have hGn2 : (G ++ [g]).Nodup := List.nodup_append.mpr ⟨hGn, by simp, fun x hx y hy z => hgG (by rw [← List.mem_singleton.mp hy, ← z]; exact hx)⟩
              (conv => whnf)
              refine ⟨fun _ => ?_, fun z => (tf_ z).elim⟩
              (conv => whnf)
              refine ⟨⟨_, hml2⟩, ?_⟩
              (conv => whnf)
              (split; rotate_left; (rename_i e_; exact nomatch ((e0).symm.trans e_)); rename_i ts_ e_; cases ((e0).symm.trans e_))
              (conv => whnf)
              refine ⟨_, hml2, ?_⟩
              (conv => whnf)
              refine lenOk.mk (by rw [intsD_len]; omega) ?_
              have hml3 : mup (mup μ' p0 (.lst [])) l (.lst (intsD G ++ [dI (g : Int)])) l = some (.lst (intsD (G ++ [g]))) := by rw [mup_same, gl] <;> rfl
              have hm3 : ∀ a o, μ a = some o → mup (mup μ' p0 (.lst [])) l (.lst (intsD G ++ [dI (g : Int)])) a = some o := fun a o e => by
                rw [mup_ne fun z => by rw [z, hl] at e; cases e]; exact hm2 a o e
              (conv => whnf)
              refine ⟨fun z => absurd (of_decide_eq_true z) (by show ¬ (j : Int) < 0; omega), fun _ => ?_⟩
              exact ⟨_, (G ++ [g]), hm3, hml3, hG2, hGn2, (by first | omega | (simp; done) | (simp; omega) | decide), hcc, _, _, _, _, _, rfl⟩
  · rintro ρ μ' ⟨c, G, hm, hml, hG, hGn, hGl, hcc, d9, d10, d11, d12, d13, rfl⟩
    rw [List.drop_eq_nil_of_le (by rw [enumD_len, List.length_map]; exact Nat.le_refl _)] at hcc
    have hcc : c = roundM R.rows s0 n A0 := hcc
    subst hcc
    rw [enumD_len, List.length_map] at hGl
    (conv => whnf)
    refine ⟨l, _, rfl, hml, hl, ?_⟩
    (conv => whnf)
    refine LcD.mapG G (fun (a : Nat) => dI (a : Int)) (fun (a : Nat) => dI (a : Int)) (by omega) (fun x hx => ⟨_, rfl, fun Ψ hΨ => hΨ⟩) ?_
    (conv => whnf)
    refine ⟨G.map fun (a : Nat) => (a : Int), by rw [List.map_map] <;> rfl, fun ns hp ho => ?_⟩
    obtain ⟨A', e1, e2, e3⟩ := sort_nat hp ho
    (conv => whnf)
    have es : A' = gsM R.rows s0 n A0 := gs_uniq hAn ⟨(e3.and (show A'.Pairwise (· ≠ ·) from e2.nodup_iff.mpr hGn)).imp fun h => by omega, fun a => e2.mem_iff.trans (hG a)⟩
    refine ⟨μ, fun a u e => ?_, ?_⟩
    · rw [mdel_ne fun z => by rw [z, hl] at e; cases e]; exact hm a u e
    · rw [e1, es]
      exact h _
end
end K3
set_option Elab.async false
set_option linter.all false
set_option maxRecDepth 100000
set_option maxHeartbeats 800000
set_option pp.maxSteps 800
/-! KG28: who asks; rounds; lots. -/
namespace K3
open PySem PySem.Spec PyProof.Rows L2
def S_asking : DSp := fun xs μ Φ => ∃ (l : Addr) (a b : Int) (n : Nat), xs = [dR l, dI (n : Int)] ∧ μ l = some (boxO a b) ∧ 0 < n ∧ n < 60 ∧ ∀ (A : List Nat) (a' b' : Int), A.Nodup → (∀ x ∈ A, x < n) → Φ (.lst (intsD A)) (mup μ l (boxO a' b'))
def S_rounds : DSp := fun xs μ Φ => ∃ (l : Addr) (a b : Int) (n m : Nat), xs = [dR l, dI (n : Int), dI (m : Int)] ∧ μ l = some (boxO a b) ∧ 0 < n ∧ n < 60 ∧ m < 900 ∧ ∀ (As : List (Bool × List Nat)) (a' b' : Int), AskOk n As → As.length = m → Φ (.lst (As.map RdD)) (mup μ l (boxO a' b'))
def S_law_lots : DSp := fun xs μ Φ => ∃ n : Nat, xs = [dI (n : Int)] ∧ n < 8 ∧ Φ (.lst ((lotsN n).map fun A => .lst (intsD A))) μ
structure AskM (μ μ' : Mu) (l p q : Addr) (Ls F : List Nat) : Prop where
  box : ∃ a b, μ' l = some (boxO a b)
  left : μ' p = some (.lst (intsD Ls))
  found : μ' q = some (.lst (intsD F))
  old : ∀ x o, x ≠ l → μ x = some o → μ' x = some o
theorem AskM.put {μ μ' : Mu} {l p q : Addr} {Ls F : List Nat} {a b : Int} (h : AskM μ μ' l p q Ls F) (hp : p ≠ l) (hq : q ≠ l) : AskM μ (mup μ' l (boxO a b)) l p q Ls F :=
  ⟨⟨a, b, mup_same⟩, (mup_ne hp).trans h.left, (mup_ne hq).trans h.found, fun x o ne e => (mup_ne ne).trans (h.old x o ne e)⟩
theorem AskM.off {μ μ' : Mu} {l p q z : Addr} {Ls F : List Nat} {o : MO} (h : AskM μ μ' l p q Ls F) (hz : μ' z = none) : AskM μ (mup μ' z o) l p q Ls F := by
  obtain ⟨⟨a, b, h1⟩, h2, h3, h4⟩ := h
  exact ⟨⟨a, b, mup_off hz _ _ h1⟩, mup_off hz _ _ h2, mup_off hz _ _ h3, fun x o ne e => mup_off hz _ _ (h4 x o ne e)⟩
theorem mup_old {μ μ0 : Mu} {q x : Addr} {m o : MO} (hq : μ0 q = none) (e : μ0 x = some o) : mup μ q m x = μ x := mup_ne fun z => by rw [z, hq] at e; cases e
theorem mdel_old {μ μ0 : Mu} {q x : Addr} {o : MO} (hq : μ0 q = none) (e : μ0 x = some o) : mdel μ q x = μ x := mdel_ne fun z => by rw [z, hq] at e; cases e
theorem erase_map {α β : Type} (f : α → β) : ∀ (xs : List α) (k : Nat), (xs.map f).eraseIdx k = (xs.eraseIdx k).map f
  | [], _ => rfl
  | x :: xs, 0 => rfl
  | x :: xs, k + 1 => by
    show f x :: (xs.map f).eraseIdx k = f x :: (xs.eraseIdx k).map f
    rw [erase_map f xs k]
theorem erase_perm {F Ls : List Nat} {k x : Nat} (h : Ls[k]? = some x) : (F ++ [x] ++ Ls.eraseIdx k).Perm (F ++ Ls) := by
  rw [List.append_assoc]
  refine List.Perm.append_left F ?_
  induction Ls generalizing k with
  | nil => simp at h
  | cons y Ls ih =>
    cases k with
    | zero => simp at h; subst h; exact List.Perm.refl _
    | succ k =>
      have := ih (k := k) (by simpa using h)
      exact (List.Perm.swap y x _).trans (this.cons y)
section
variable {P : Program} {w : World} {K : PySem.W.Frag} {mg : Str → Option Value} {base : Heap}
theorem sc__law_asking : FnScope ["_law_box", "_law_askers", "_law_left", "_law_found", "_law_turn"] ["_law_box", "_law_askers"] (defScope (top 67)) := ⟨rfl, rfl, rfl, by decide +kernel, rfl, by decide +kernel, by decide +kernel⟩
theorem G__law_asking (T : TF w K mg) (F : FnP K "_law_asking" "_law_asking" (top 67) (He.ga K "_law_asking")) (hm : mg "_law_asking" = some (.ref (He.ga K "_law_asking"))) (G__law_choose : FnG P w K mg base "_law_choose" ["_law_box", "_law_many"] 1 (S_choose)) (G__law_one_of : FnG P w K mg base "_law_one_of" ["_law_box", "_law_some"] 2 (S_one_of)) : FnG P w K mg base "_law_asking" ["_law_box", "_law_askers"] 3 (S_asking) := by
  refine fnG_of F hm sc__law_asking (fun _ _ _ _ _ _ us hl => match us, hl with | [_, _], _ => rfl) ?_ ?_
  · (intro ds μ Φ h; first | (obtain ⟨_, rfl, _⟩ := h; rfl) | (obtain ⟨_, _, rfl, _⟩ := h; rfl) | (obtain ⟨_, _, _, rfl, _⟩ := h; rfl) | (obtain ⟨_, _, _, _, rfl, _⟩ := h; rfl) | (obtain ⟨_, _, _, _, _, rfl, _⟩ := h; rfl) | (obtain ⟨_, _, _, _, _, _, rfl, _⟩ := h; rfl) | (obtain ⟨_, _, _, _, _, _, _, rfl, _⟩ := h; rfl) | (obtain ⟨_, _, _, _, _, _, _, _, rfl, _⟩ := h; rfl) | (obtain ⟨_, _, _, _, _, _, _, _, _, rfl, _⟩ := h; rfl) | (obtain ⟨_, _, _, _, _, _, _, _, _, _, rfl, _⟩ := h; rfl) | (obtain ⟨_, _, _, _, _, _, _, _, _, _, _, rfl, _⟩ := h; rfl) | (obtain ⟨_, _, _, _, _, _, _, _, _, _, _, _, rfl, _⟩ := h; rfl))
  intro f cdv A outer s H E hr
  have nd := sc__law_asking.nd
  refine ⟨_, (ss_cons (s_par 2 3 rfl nd (a_cons (q_lrngM rfl (T.free "list" (by simp)) rfl (T.free "range" (by simp)) (q_var 1)) (a_cons (q_lstM a_nil) a_nil)) rfl)
      (ss_cons (s_for PassesOwn.never rfl (i_range1 rfl (T.free "range" (by simp)) (a_cons (q_call G__law_one_of (hr.mono (by decide)) rfl (a_cons (q_var 0) (a_cons (q_lst (a_cons (q_call G__law_choose (hr.mono (by decide)) rfl (a_cons (q_var 0) (a_cons (q_add (q_var 1) q_int) a_nil))) (a_cons (q_var 1) (a_cons (q_add q_int (q_call G__law_choose (hr.mono (by decide)) rfl (a_cons (q_var 0) (a_cons q_int a_nil)))) (a_cons q_int a_nil))))) a_nil))) a_nil)) (g_name (i := 4) nd rfl (.inl rfl)) (ss_one (s_if (t_cmp (op_neD hr.units) sim_neD (q_var 2) (q_lstM a_nil) (nomark _)) (ss_one (s_expr (q_lm PySem.F.plainAttrs_list PySem.F.slot_list_append PySem.F.type_list_append mt_append simLm_app lmApp_mono (q_var 3) (a_cons (q_lm PySem.F.plainAttrs_list PySem.F.slot_list_pop PySem.F.type_list_pop mt_popAt simLm_popAt lmPopAt_mono (q_var 2) (a_cons (q_call G__law_choose (hr.mono (by decide)) rfl (a_cons (q_var 0) (a_cons (q_cb call_len_seq sim_len rfl (T.free "len" (by simp)) (by decide +kernel) (a_cons (q_var 2) a_nil)) a_nil))) a_nil)) a_nil)))) ss_nil)))
      (ss_one (s_retF (q_var 3))))), ?_⟩
  clear hr nd F hm
  rintro _ μ Φ ⟨l, a, b, n, rfl, hl, hn0, hn, h⟩
  (conv => whnf)
  refine ⟨⟨by omega, by omega⟩, fun p hp => ?_⟩
  (conv => whnf)
  intro q hq
  have npl : p ≠ l := fun z => by rw [z, hl] at hp; cases hp
  have nqp : q ≠ p := fun z => by rw [z, mup_same] at hq; cases hq
  have hq0 : μ q = none := by have := hq; rwa [mup_ne nqp] at this
  have nql : q ≠ l := fun z => by rw [z, hl] at hq0; cases hq0
  have M0 : AskM μ (mup (mup μ p (.lst (rngD 0 ((n : Nat) : Int).toNat))) q (.lst [])) l p q (List.range n) [] :=
    ⟨⟨a, b, by rw [mup_ne nql.symm, mup_ne npl.symm]; exact hl⟩, by rw [mup_ne nqp.symm, mup_same, rngN], by rw [mup_same] <;> rfl, fun x o ne e => mup_off hq _ _ (mup_off hp _ _ e)⟩
  generalize mup (mup μ p (.lst (rngD 0 ((n : Nat) : Int).toNat))) q (.lst []) = μ0 at M0
  obtain ⟨a0, b0, hb0⟩ := M0.box
  (conv => whnf)
  refine ⟨l, a0, b0, n + 1, rfl, hb0, by omega, by omega, fun k1 a1 b1 hk1 => ?_⟩
  (conv => whnf)
  refine ⟨l, a1, b1, 2, rfl, mup_same, by decide, by decide, fun k2 a2 b2 hk2 => ?_⟩
  rw [mup_mup]
  (conv => whnf)
  refine ⟨l, a2, b2, [dI (k1 : Int), dI (n : Int), dI (1 + (k2 : Int)), dI 0], rfl, mup_same, (fun z => nomatch z), (by decide : 4 < 100000000), fun y a3 b3 hy => ?_⟩
  rw [mup_mup]
  obtain ⟨t, ht, rfl⟩ : ∃ t : Nat, t < 100 ∧ y = dI (t : Int) := by
    simp only [List.mem_cons, List.not_mem_nil, or_false] at hy
    rcases hy with rfl | rfl | rfl | rfl
    · exact ⟨k1, by omega, rfl⟩
    · exact ⟨n, by omega, rfl⟩
    · exact ⟨1 + k2, by omega, rfl⟩
    · exact ⟨0, by omega, rfl⟩
  have M1 := M0.put (a := a3) (b := b3) npl nql
  generalize mup μ0 l (boxO a3 b3) = μ1 at M1
  (conv => whnf)
  refine ⟨⟨by omega, by omega⟩, fun i ρ μ' => ∃ Ls F, AskM μ μ' l p q Ls F ∧ (F ++ Ls).Perm (List.range n) ∧ ∃ d4, ρ = [some (dR l), some (dI (n : Int)), some (dR p), some (dR q), d4], ⟨List.range n, [], M1, List.Perm.refl _, _, rfl⟩, ?_, ?_⟩
  · rintro i x ρ μ' hx ⟨Ls, F, M, hpm, d4, rfl⟩
    have hLl : F.length + Ls.length = n := by have := hpm.length_eq; rwa [List.length_append, List.length_range] at this
    (conv => whnf)
    intro z hz
    have M2 := M.off (o := .lst []) hz
    have hz2 : mup μ' z (.lst []) z = some (.lst []) := mup_same
    generalize mup μ' z (.lst []) = μ2 at M2 hz2
    (conv => whnf)
    refine ⟨_, _, M2.left, toPys_ints Ls, ?_⟩
    (conv => whnf)
    refine ⟨[], [], hz2, rfl, shaped_ints Ls, shaped_nil, ?_⟩
    rw [eqv_nil]
    obtain ⟨a4, b4, hb4⟩ := M2.box
    cases Ls with
    | nil =>
      (conv => whnf)
      refine ⟨fun z => (ft_ z).elim, fun _ => ?_⟩
      exact ⟨[], F, M2, hpm, _, rfl⟩
    | cons y0 Ls0 =>
      generalize hLs : y0 :: Ls0 = Ls at M2 hpm hLl
      have hpos : 0 < Ls.length := by rw [← hLs]; simp
      (conv => whnf)
      refine ⟨fun _ => ?_, fun z => by rw [← hLs] at z; simp at z⟩
      (conv => whnf)
      refine ⟨⟨_, M2.found⟩, ?_⟩
      (conv => whnf)
      refine ⟨⟨_, M2.left⟩, ?_⟩
      (conv => whnf)
      refine ⟨_, M2.left, ?_⟩
      (conv => whnf)
      refine ⟨l, a4, b4, (intsD Ls).length, rfl, hb4, by rw [intsD_len]; exact hpos, by rw [intsD_len]; omega, fun k5 a5 b5 hk5 => ?_⟩
      rw [intsD_len] at hk5
      have M3 := M2.put (a := a5) (b := b5) npl nql
      generalize mup μ2 l (boxO a5 b5) = μ3 at M3
      have ek : Ls[k5]? = some (Ls[k5]'hk5) := List.getElem?_eq_getElem hk5
      have eks : (intsD Ls)[k5]? = some (dI ((Ls[k5]'hk5 : Nat) : Int)) := by unfold intsD; rw [List.getElem?_map, ek] <;> rfl
      (conv => whnf)
      refine ⟨_, M3.left, ?_⟩
      (conv => whnf)
      refine ⟨by omega, ?_⟩
      (conv => whnf)
      refine ⟨by omega, k5, _, ?_, eks, ?_⟩
      · unfold seqIndex?
        rw [intsD_len]
        have h1 : ¬ ((k5 : Nat) : Int) < 0 := by omega
        simp [h1, hk5]
      (conv => whnf)
      have e2 : (intsD Ls).eraseIdx k5 = intsD (Ls.eraseIdx k5) := erase_map _ Ls k5
      rw [e2]
      refine ⟨_, (mup_ne nqp).trans M3.found, ?_⟩
      (conv => whnf)
      refine lenOk.mk (by rw [intsD_len]; omega) ?_
      refine ⟨Ls.eraseIdx k5, F ++ [Ls[k5]'hk5], ⟨?_, ?_, ?_, ?_⟩, (erase_perm ek).trans hpm, _, rfl⟩
      · obtain ⟨a6, b6, h6⟩ := M3.box
        exact ⟨a6, b6, by rw [mup_ne nql.symm, mup_ne npl.symm]; exact h6⟩
      · rw [mup_ne nqp.symm, mup_same]
      · rw [mup_same]; simp [intsD]
      · intro x o ne e
        have hx0 := M3.old x o ne e
        rw [mup_old hq0 e, mup_old hp e]
        exact hx0
  · rintro ρ μ' ⟨Ls, F, M, hpm, d4, rfl⟩
    obtain ⟨a4, b4, hb4⟩ := M.box
    have hpm2 := hpm.nodup_iff.mpr List.nodup_range
    (conv => whnf)
    refine ⟨q, _, rfl, M.found, hq0, mup μ l (boxO a4 b4), fun x o e => ?_, h F a4 b4 (List.nodup_append.mp hpm2).1 fun x hx => List.mem_range.mp (hpm.mem_iff.mp (List.mem_append_left _ hx))⟩
    by_cases hxl : x = l
    · subst hxl; rw [mup_same] at e; cases e
      rw [mdel_ne nql.symm]; exact hb4
    · rw [mup_ne hxl] at e
      rw [mdel_old hq0 e]
      exact M.old x o hxl e
theorem sc__law_rounds : FnScope ["_law_box", "_law_askers", "_law_many", "_law_found", "_law_turn", "_law_asking_here"] ["_law_box", "_law_askers", "_law_many"] (defScope (top 68)) := ⟨rfl, rfl, rfl, by decide +kernel, rfl, by decide +kernel, by decide +kernel⟩
theorem G__law_rounds (T : TF w K mg) (F : FnP K "_law_rounds" "_law_rounds" (top 68) (He.ga K "_law_rounds")) (hm : mg "_law_rounds" = some (.ref (He.ga K "_law_rounds"))) (G__law_asking : FnG P w K mg base "_law_asking" ["_law_box", "_law_askers"] 3 (S_asking)) (G__law_choose : FnG P w K mg base "_law_choose" ["_law_box", "_law_many"] 1 (S_choose)) : FnG P w K mg base "_law_rounds" ["_law_box", "_law_askers", "_law_many"] 4 (S_rounds) := by
  refine fnG_of F hm sc__law_rounds (fun _ _ _ _ _ _ us hl => match us, hl with | [_, _, _], _ => rfl) ?_ ?_
  · (intro ds μ Φ h; first | (obtain ⟨_, rfl, _⟩ := h; rfl) | (obtain ⟨_, _, rfl, _⟩ := h; rfl) | (obtain ⟨_, _, _, rfl, _⟩ := h; rfl) | (obtain ⟨_, _, _, _, rfl, _⟩ := h; rfl) | (obtain ⟨_, _, _, _, _, rfl, _⟩ := h; rfl) | (obtain ⟨_, _, _, _, _, _, rfl, _⟩ := h; rfl) | (obtain ⟨_, _, _, _, _, _, _, rfl, _⟩ := h; rfl) | (obtain ⟨_, _, _, _, _, _, _, _, rfl, _⟩ := h; rfl) | (obtain ⟨_, _, _, _, _, _, _, _, _, rfl, _⟩ := h; rfl) | (obtain ⟨_, _, _, _, _, _, _, _, _, _, rfl, _⟩ := h; rfl) | (obtain ⟨_, _, _, _, _, _, _, _, _, _, _, rfl, _⟩ := h; rfl) | (obtain ⟨_, _, _, _, _, _, _, _, _, _, _, _, rfl, _⟩ := h; rfl))
  intro f cdv A outer s H E hr
  have nd := sc__law_rounds.nd
  refine ⟨_, (ss_cons (s_set 3 nd (q_lstM a_nil))
      (ss_cons (s_for PassesOwn.never rfl (i_range1 rfl (T.free "range" (by simp)) (a_cons (q_var 2) a_nil)) (g_name (i := 4) nd rfl (.inl rfl)) (ss_cons (s_set 5 nd (q_call G__law_asking (hr.mono (by decide)) rfl (a_cons (q_var 0) (a_cons (q_var 1) a_nil))))
      (ss_one (s_expr (q_lm PySem.F.plainAttrs_list PySem.F.slot_list_append PySem.F.type_list_append mt_append simLm_app lmApp_mono (q_var 3) (a_cons (q_if (t_eq (q_call G__law_choose (hr.mono (by decide)) rfl (a_cons (q_var 0) (a_cons q_int a_nil))) q_int) (q_cty call_tuple_of sim_tuple rfl (T.free "tuple" (by simp)) (by decide +kernel) (a_cons (q_var 5) a_nil)) (q_var 5)) a_nil))))))
      (ss_one (s_retF (q_var 3))))), ?_⟩
  clear hr nd F hm
  rintro _ μ Φ ⟨l, a, b, n, m, rfl, hl, hn0, hn, hm, h⟩
  (conv => whnf)
  intro q hq
  have nql : q ≠ l := fun z => by rw [z, hl] at hq; cases hq
  (conv => whnf)
  refine ⟨⟨by omega, by omega⟩, fun i ρ μ' => ∃ As : List (Bool × List Nat), (∃ a b, μ' l = some (boxO a b)) ∧ μ' q = some (.lst (As.map RdD)) ∧ (∀ x o, x ≠ l → μ x = some o → μ' x = some o) ∧ As.length = i ∧ (∀ t ∈ As, t.2.length < 64 ∧ t.2.Nodup ∧ ∀ x ∈ t.2, x < n) ∧
    ∃ d4 d5, ρ = [some (dR l), some (dI (n : Int)), some (dI (m : Int)), some (dR q), d4, d5], ⟨[], ⟨a, b, (mup_ne nql.symm).trans hl⟩, mup_same, fun x o _ e => mup_off hq _ _ e, rfl, (fun t ht => nomatch ht), _, _, rfl⟩, ?_, ?_⟩
  · rintro i x ρ μ1 hx ⟨As, ⟨a1, b1, hb1⟩, hq1, hold, hAl, hAs, d4, d5, rfl⟩
    obtain ⟨hi, rfl⟩ := rng_get hx
    (conv => whnf)
    refine ⟨l, a1, b1, n, rfl, hb1, hn0, hn, fun A a2 b2 hnd hlt => ?_⟩
    have hAlen : A.length < 64 := by
      have := nodup_le (m := List.range n) hnd fun x hx => List.mem_range.mpr (hlt x hx)
      rw [List.length_range] at this; omega
    have hq2 : mup μ1 l (boxO a2 b2) q = some (.lst (As.map RdD)) := (mup_ne nql).trans hq1
    (conv => whnf)
    refine ⟨⟨_, hq2⟩, ?_⟩
    (conv => whnf)
    refine ⟨l, a2, b2, 2, rfl, mup_same, by decide, by decide, fun k3 a3 b3 hk3 => ?_⟩
    rw [mup_mup]
    have hq3 : mup μ1 l (boxO a3 b3) q = some (.lst (As.map RdD)) := (mup_ne nql).trans hq1
    have fin : ∀ (c : Bool), ∃ As' : List (Bool × List Nat), (∃ a b, mup (mup μ1 l (boxO a3 b3)) q (.lst (As.map RdD ++ [sqD c (intsD A)])) l = some (boxO a b)) ∧ mup (mup μ1 l (boxO a3 b3)) q (.lst (As.map RdD ++ [sqD c (intsD A)])) q = some (.lst (As'.map RdD)) ∧
      (∀ x o, x ≠ l → μ x = some o → mup (mup μ1 l (boxO a3 b3)) q (.lst (As.map RdD ++ [sqD c (intsD A)])) x = some o) ∧ As'.length = i + 1 ∧ (∀ t ∈ As', t.2.length < 64 ∧ t.2.Nodup ∧ ∀ x ∈ t.2, x < n) := fun c => by
      refine ⟨As ++ [(c, A)], ⟨a3, b3, by rw [mup_ne nql.symm, mup_same]⟩, ?_, fun x o ne e => ?_, by simp [hAl], fun t ht => ?_⟩
      · rw [mup_same, List.map_append] <;> rfl
      · rw [mup_old hq e, mup_ne ne]; exact hold x o ne e
      · rcases List.mem_append.mp ht with z | z
        · exact hAs t z
        · rw [List.mem_singleton.mp z]; exact ⟨hAlen, hnd, hlt⟩
    (conv => whnf)
    refine ⟨rfl, fun hc => ?_, fun hc => ?_⟩
    · (conv => whnf)
      refine ⟨_, hq3, ?_⟩
      (conv => whnf)
      refine lenOk.mk (by rw [List.length_map]; omega) ?_
      obtain ⟨As', f1, f2, f3, f4, f5⟩ := fin true
      exact ⟨As', f1, f2, f3, f4, f5, _, _, rfl⟩
    · (conv => whnf)
      refine ⟨_, hq3, ?_⟩
      (conv => whnf)
      refine lenOk.mk (by rw [List.length_map]; omega) ?_
      obtain ⟨As', f1, f2, f3, f4, f5⟩ := fin false
      exact ⟨As', f1, f2, f3, f4, f5, _, _, rfl⟩
  · rintro ρ μ1 ⟨As, ⟨a1, b1, hb1⟩, hq1, hold, hAl, hAs, d4, d5, rfl⟩
    rw [rngD_len, Int.toNat_natCast] at hAl
    (conv => whnf)
    refine ⟨q, _, rfl, hq1, hq, mup μ l (boxO a1 b1), fun x o e => ?_, h As a1 b1 ⟨by omega, hAs⟩ hAl⟩
    by_cases hxl : x = l
    · subst hxl; rw [mup_same] at e; cases e
      rw [mdel_ne nql.symm]; exact hb1
    · rw [mup_ne hxl] at e
      rw [mdel_old hq e]
      exact hold x o hxl e
theorem sc__law_lots : FnScope ["_law_many", "_law_found", "_law_number", "_law_lot"] ["_law_many"] (defScope (top 69)) := ⟨rfl, rfl, rfl, by decide +kernel, rfl, by decide +kernel, by decide +kernel⟩
theorem G__law_lots (T : TF w K mg) (F : FnP K "_law_lots" "_law_lots" (top 69) (He.ga K "_law_lots")) (hm : mg "_law_lots" = some (.ref (He.ga K "_law_lots")))  : FnG P w K mg base "_law_lots" ["_law_many"] 1 (S_law_lots) := by
  refine fnG_of F hm sc__law_lots (fun _ _ _ _ _ _ us hl => match us, hl with | [_], _ => rfl) ?_ ?_
  · (intro ds μ Φ h; first | (obtain ⟨_, rfl, _⟩ := h; rfl) | (obtain ⟨_, _, rfl, _⟩ := h; rfl) | (obtain ⟨_, _, _, rfl, _⟩ := h; rfl) | (obtain ⟨_, _, _, _, rfl, _⟩ := h; rfl) | (obtain ⟨_, _, _, _, _, rfl, _⟩ := h; rfl) | (obtain ⟨_, _, _, _, _, _, rfl, _⟩ := h; rfl) | (obtain ⟨_, _, _, _, _, _, _, rfl, _⟩ := h; rfl) | (obtain ⟨_, _, _, _, _, _, _, _, rfl, _⟩ := h; rfl) | (obtain ⟨_, _, _, _, _, _, _, _, _, rfl, _⟩ := h; rfl) | (obtain ⟨_, _, _, _, _, _, _, _, _, _, rfl, _⟩ := h; rfl) | (obtain ⟨_, _, _, _, _, _, _, _, _, _, _, rfl, _⟩ := h; rfl) | (obtain ⟨_, _, _, _, _, _, _, _, _, _, _, _, rfl, _⟩ := h; rfl))
  intro f cdv A outer s H E hr
  have nd := sc__law_lots.nd
  refine ⟨_, (ss_cons (s_set 1 nd (q_lst (a_cons (q_lst a_nil) a_nil)))
      (ss_cons (s_for PassesOwn.never rfl (i_range1 rfl (T.free "range" (by simp)) (a_cons (q_var 0) a_nil)) (g_name (i := 2) nd rfl (.inr rfl)) (ss_one (s_set 1 nd (q_op op_catL sim_cat2 (q_var 1) (q_lc (own := [("_law_lot", 3)]) (blk1 3) rfl nd (blkOk_by (own := [("_law_lot", 3)]) (by kernel_rfl)) (i_list (q_var 1)) (fun _ _ _ _ _ => (pg_name (i := 3) nd rfl (.inl rfl))) (fun _ _ _ _ _ => ts_nil) (fun _ _ _ _ _ => (q_op op_catL sim_cat2 (q_var 3) (q_lst (a_cons (q_var 2) a_nil)))))))))
      (ss_one (s_ret (q_var 1))))), ?_⟩
  clear hr nd F hm
  rintro _ μ Φ ⟨n, rfl, hn, h⟩
  (conv => whnf)
  refine ⟨⟨by omega, by omega⟩, fun i ρ μ' => μ' = μ ∧ ∃ d2 d3, ρ = [some (dI (n : Int)), some (.lst ((lotsN i).map fun A => .lst (intsD A))), d2, d3], ⟨rfl, _, _, rfl⟩, ?_, ?_⟩
  · rintro i x ρ μ' hx ⟨rfl, d2, d3, rfl⟩
    obtain ⟨hi, rfl⟩ := rng_get hx
    have hl : (lotsN i).length ≤ 128 := by
      rw [lotsN_len]
      exact Nat.pow_le_pow_right (by decide) (by omega : i ≤ 7)
    (conv => whnf)
    refine LcD.mapG (lotsN i) (fun A => .lst (intsD A)) (fun A => .lst (intsD (A ++ [i]))) (by omega) (fun A hA => ⟨_, rfl, fun Ψ hΨ => ?_⟩) ?_
    · have hAl : A.length ≤ i := by
        obtain ⟨h1, h2⟩ := lots_mem.mp hA
        have := nodup_le (m := List.range i) (h1.imp fun h => Nat.ne_of_lt h) fun x hx => List.mem_range.mpr (h2 x hx)
        rwa [List.length_range] at this
      (conv => whnf)
      refine ⟨rfl, rfl, ?_⟩
      (conv => whnf)
      refine lenOk.mk (by rw [intsD_len]; simp; omega) ?_
      have e : intsD (A ++ [i]) = intsD A ++ [dI (i : Int)] := by simp [intsD]
      rw [e] at hΨ
      exact hΨ
    · (conv => whnf)
      refine ⟨rfl, rfl, ?_⟩
      (conv => whnf)
      refine lenOk.mk (by simp; omega) ?_
      refine ⟨rfl, some (dI (i : Int)), d3, ?_⟩
      show _ = [some (dI (n : Int)), some (.lst ((lotsN i ++ (lotsN i).map fun A => A ++ [i]).map fun A => .lst (intsD A))), some (dI (i : Int)), d3]
      rw [List.map_append, List.map_map] <;> rfl
  · rintro ρ μ' ⟨rfl, d2, d3, rfl⟩
    rw [rngD_len, Int.toNat_natCast]
    exact ⟨_, fun _ _ e => e, h⟩
end
end K3
set_option Elab.async false
set_option linter.all false
set_option maxRecDepth 100000
set_option maxHeartbeats 800000
set_option pp.maxSteps 800
/-! KG29: the states that come, and what each round does. -/
namespace K3
open PySem PySem.Spec PyProof.Rows L2
def toldE (R : RuleM) (n : Nat) (s : StM) (A : List Nat) : D := .tup [.lst (intsD A), tupI (gsM R.rows s n A), lstD (roundM R.rows s n A).beh]
def toldD (R : RuleM) (n : Nat) (s : StM) : D := .lst ((lotsN n).map (toldE R n s))
structure ClsM (R : RuleM) (n : Nat) (ss : List StM) : Prop where
  nd : ss.Nodup
  st : (R.first, none) ∈ ss
  rc : ∀ s ∈ ss, Rch R n s
  cl : ∀ s ∈ ss, ∀ A ∈ lotsN n, (roundM R.rows s n A).beh ∈ ss
def S_nexts : DSp := fun xs μ Φ => ∃ (R : RuleM) (n : Nat), xs = [lruleD R, dI (n : Int)] ∧ R.rows.length < 60 ∧ n < 8 ∧ ∀ ss, ClsM R n ss → Φ (.dct (fdl (toldD R n) ss)) μ
structure NexM (R : RuleM) (n i : Nat) (μ μ' : Mu) (f o k : Addr) (ss : List StM) : Prop where
  hf : μ' f = some (.dct (fdl (toldD R n) (ss.take i)))
  ho : μ' o = some (.lst (ss.map lstD))
  hk : μ' k = some (.dct (fdl (fun _ => dB true) ss))
  old : ∀ x u, μ x = some u → μ' x = some u
structure NexI (R : RuleM) (n i : Nat) (ss : List StM) : Prop where
  nd : ss.Nodup
  st : (R.first, none) ∈ ss
  rc : ∀ s ∈ ss, Rch R n s
  cl : ∀ s ∈ ss.take i, ∀ A ∈ lotsN n, (roundM R.rows s n A).beh ∈ ss
theorem NexI.len {R : RuleM} {n i : Nat} {ss : List StM} (h : NexI R n i ss) : ss.length ≤ (R.rows.length + 1) * (n + 1) := by
  have := nodup_le h.nd fun s hs => (h.rc s hs).elim fun p hp => spath_univ hp
  rwa [univ_len] at this
theorem fupd_id {α : Type} {f : StM → α} {s : StM} : fupd f s (f s) = f := by
  funext t
  unfold fupd
  split
  · rename_i e; rw [e]
  · rfl
theorem none_of_old {μ μ' : Mu} {x : Addr} (h : ∀ x u, μ x = some u → μ' x = some u) (e : μ' x = none) : μ x = none := by
  cases q : μ x with
  | none => rfl
  | some u => rw [h x u q] at e; cases e
theorem ne_of_some {μ : Mu} {x y : Addr} {o : MO} (h : μ x = some o) (e : μ y = none) : x ≠ y := fun z => by rw [z, e] at h; cases h
section
variable {P : Program} {w : World} {K : PySem.W.Frag} {mg : Str → Option Value} {base : Heap}
theorem sc__law_nexts : FnScope ["_law_rule_here", "_law_askers", "_law_begin", "_law_found", "_law_order", "_law_known", "_law_at", "_law_every", "_law_told", "_law_asking_here", "_law_done", "_law_grants", "_law_later"] ["_law_rule_here", "_law_askers"] (defScope (top 70)) := ⟨rfl, rfl, rfl, by decide +kernel, rfl, by decide +kernel, by decide +kernel⟩
theorem G__law_nexts (T : TF w K mg) (F : FnP K "_law_nexts" "_law_nexts" (top 70) (He.ga K "_law_nexts")) (hm : mg "_law_nexts" = some (.ref (He.ga K "_law_nexts"))) (G__law_lots : FnG P w K mg base "_law_lots" ["_law_many"] 1 (S_law_lots)) (G__law_round : FnG P w K mg base "_law_round" ["_law_rule_here", "_law_state", "_law_askers", "_law_asking_here"] 2 (S_law_round)) : FnG P w K mg base "_law_nexts" ["_law_rule_here", "_law_askers"] 3 (S_nexts) := by
  refine fnG_of F hm sc__law_nexts (fun _ _ _ _ _ _ us hl => match us, hl with | [_, _], _ => rfl) ?_ ?_
  · (intro ds μ Φ h; first | (obtain ⟨_, rfl, _⟩ := h; rfl) | (obtain ⟨_, _, rfl, _⟩ := h; rfl) | (obtain ⟨_, _, _, rfl, _⟩ := h; rfl) | (obtain ⟨_, _, _, _, rfl, _⟩ := h; rfl) | (obtain ⟨_, _, _, _, _, rfl, _⟩ := h; rfl) | (obtain ⟨_, _, _, _, _, _, rfl, _⟩ := h; rfl) | (obtain ⟨_, _, _, _, _, _, _, rfl, _⟩ := h; rfl) | (obtain ⟨_, _, _, _, _, _, _, _, rfl, _⟩ := h; rfl) | (obtain ⟨_, _, _, _, _, _, _, _, _, rfl, _⟩ := h; rfl) | (obtain ⟨_, _, _, _, _, _, _, _, _, _, rfl, _⟩ := h; rfl) | (obtain ⟨_, _, _, _, _, _, _, _, _, _, _, rfl, _⟩ := h; rfl) | (obtain ⟨_, _, _, _, _, _, _, _, _, _, _, _, rfl, _⟩ := h; rfl))
  intro f cdv A outer s H E hr
  have nd := sc__law_nexts.nd
  refine ⟨_, (ss_cons (s_set 2 nd (q_tup (a_cons (q_ix (q_var 0) q_int) (a_cons (q_un un_neg sim_neg q_int) a_nil))))
      (ss_cons (s_asg (q_tup (a_cons q_dctM (a_cons (q_lstM (a_cons (q_var 2) a_nil)) (a_cons (q_dct1M hr.units0 (q_var 2) q_bl) (a_cons q_int a_nil))))) (g_tup rfl (gs_cons (g_name (i := 3) nd rfl (.inl rfl)) (gs_cons (g_name (i := 4) nd rfl (.inl rfl)) (gs_cons (g_name (i := 5) nd rfl (.inl rfl)) (gs_cons (g_name (i := 6) nd rfl (.inl rfl)) gs_nil))))))
      (ss_cons (s_set 7 nd (q_call G__law_lots (hr.mono (by decide)) rfl (a_cons (q_var 1) a_nil)))
      (ss_cons (s_while PassesOwn.never (t_lt (q_var 6) (q_cb call_len_seq sim_len rfl (T.free "len" (by simp)) (by decide +kernel) (a_cons (q_var 4) a_nil))) (ss_cons (s_set 8 nd (q_lstM a_nil))
      (ss_cons (s_for PassesOwn.never rfl (i_list (q_var 7)) (g_name (i := 9) nd rfl (.inl rfl)) (ss_cons (s_asg (q_call G__law_round (hr.mono (by decide)) rfl (a_cons (q_var 0) (a_cons (q_ix (q_var 4) (q_var 6)) (a_cons (q_var 1) (a_cons (q_var 9) a_nil))))) (g_tup rfl (gs_cons (g_name (i := 10) nd rfl (.inl rfl)) (gs_cons (g_name (i := 11) nd rfl (.inl rfl)) (gs_cons (g_name (i := 12) nd rfl (.inl rfl)) gs_nil)))))
      (ss_cons (s_expr (q_lm PySem.F.plainAttrs_list PySem.F.slot_list_append PySem.F.type_list_append mt_append simLm_app lmApp_mono (q_var 8) (a_cons (q_tup (a_cons (q_var 9) (a_cons (q_var 11) (a_cons (q_var 12) a_nil)))) a_nil)))
      (ss_one (s_if (t_cmp (op_dNotIn (hu_of hr)) sim_dIn (q_var 12) (q_var 5) (by rfl)) (ss_cons (s_asg q_bl (g_dct (hu_of hr) (q_var 5) (q_var 12)))
      (ss_one (s_expr (q_lm PySem.F.plainAttrs_list PySem.F.slot_list_append PySem.F.type_list_append mt_append simLm_app lmApp_mono (q_var 4) (a_cons (q_var 12) a_nil))))) ss_nil)))))
      (ss_frz 8 (ss_cons (s_asg (q_var 8) (g_dct (hu_of hr) (q_var 3) (q_ix (q_var 4) (q_var 6))))
      (ss_one (s_set 6 nd (q_add (q_var 6) q_int))))))))
      (ss_one (s_retF (q_var 3))))))), ?_⟩
  clear hr nd F hm
  rintro _ μ Φ ⟨R, n, rfl, hrl, hn, h⟩
  (conv => whnf)
  intro f hf
  (conv => whnf)
  intro o ho
  (conv => whnf)
  intro k hk
  obtain ⟨Bd, hBd⟩ : ∃ b, b = (R.rows.length + 1) * (n + 1) := ⟨_, rfl⟩
  have hBd2 : Bd ≤ 540 := by
    rw [hBd]
    exact Nat.le_trans (Nat.mul_le_mul (show R.rows.length + 1 ≤ 60 by omega) (show n + 1 ≤ 9 by omega)) (by decide)
  have nof : o ≠ f := fun z => by rw [z, mup_same] at ho; cases ho
  have ho0 : μ o = none := by have := ho; rwa [mup_ne nof] at this
  have nko : k ≠ o := fun z => by rw [z, mup_same] at hk; cases hk
  have nkf : k ≠ f := fun z => by rw [z, mup_ne nof.symm, mup_same] at hk; cases hk
  have hk0 : μ k = none := by have := hk; rwa [mup_ne nko, mup_ne nkf] at this
  refine ⟨lK (R.first, none), rfl, mup_same, ?_⟩
  (conv => whnf)
  refine ⟨n, rfl, hn, ?_⟩
  (conv => whnf)
  refine ⟨fun m ρ μ' => ∃ i ss, m = Bd - i ∧ i ≤ ss.length ∧ NexM R n i μ μ' f o k ss ∧ NexI R n i ss ∧ ∃ d8 d9 d10 d11 d12, ρ = [some (lruleD R), some (dI (n : Int)), some (lstD (R.first, none)), some (dR f), some (dR o), some (dR k), some (dI (i : Int)), some (.lst ((lotsN n).map fun A => .lst (intsD A))), d8, d9, d10, d11, d12],
    ⟨Bd, 0, [(R.first, none)], rfl, by simp, ⟨?_, ?_, ?_, ?_⟩, ⟨by simp, by simp, fun s hs => ?_, (fun s hs => nomatch hs)⟩, _, _, _, _, _, rfl⟩, ?_⟩
  · rw [mup_ne nkf.symm, mup_ne nkf.symm, mup_ne nof.symm, mup_same] <;> rfl
  · rw [mup_ne nko.symm, mup_ne nko.symm, mup_same] <;> rfl
  · rw [mup_same] <;> rfl
  · intro x u e
    rw [mup_old hk0 e, mup_old hk0 e, mup_old ho0 e, mup_old hf e]; exact e
  · rw [List.mem_singleton.mp hs]; exact rch_start
  rintro m ρ μ' ⟨i, ss, rfl, hi, M, I, d8, d9, d10, d11, d12, rfl⟩
  have hlen := I.len
  rw [← hBd] at hlen
  (conv => whnf)
  refine ⟨_, M.ho, ?_⟩
  (conv => whnf)
  refine ⟨fun hc => ?_, fun hc => ?_⟩
  · have hi2 : i < ss.length := by
      have := of_decide_eq_true hc
      rw [List.length_map] at this
      omega
    obtain ⟨s, hs⟩ : ∃ s, ss[i]? = some s := ⟨_, List.getElem?_eq_getElem hi2⟩
    have hsm := List.mem_of_getElem? hs
    have eat : ∀ ext : List StM, atI ((ss ++ ext).map lstD) (i : Int) = some (lstD s) := fun ext => atI_nat (by rw [List.getElem?_map, List.getElem?_append_left hi2, hs] <;> rfl)
    (conv => whnf)
    intro t ht
    have ntf : f ≠ t := ne_of_some M.hf ht
    have nto : o ≠ t := ne_of_some M.ho ht
    have ntk : k ≠ t := ne_of_some M.hk ht
    have ht0 := none_of_old M.old ht
    (conv => whnf)
    refine ⟨fun j ρ μ2 => ∃ ext, μ2 f = some (.dct (fdl (toldD R n) (ss.take i))) ∧ μ2 o = some (.lst ((ss ++ ext).map lstD)) ∧ μ2 k = some (.dct (fdl (fun _ => dB true) (ss ++ ext))) ∧ μ2 t = some (.lst (((lotsN n).take j).map (toldE R n s))) ∧ (∀ x u, μ x = some u → μ2 x = some u) ∧
      (ss ++ ext).Nodup ∧ (∀ s ∈ ext, Rch R n s) ∧ (∀ A ∈ (lotsN n).take j, (roundM R.rows s n A).beh ∈ ss ++ ext) ∧
      ∃ d9 d10 d11 d12, ρ = [some (lruleD R), some (dI (n : Int)), some (lstD (R.first, none)), some (dR f), some (dR o), some (dR k), some (dI (i : Int)), some (.lst ((lotsN n).map fun A => .lst (intsD A))), some (dR t), d9, d10, d11, d12],
      ⟨[], ?_, ?_, ?_, mup_same, ?_, ?_, (fun s hs => nomatch hs), (fun A hA => nomatch hA), _, _, _, _, rfl⟩, ?_, ?_⟩
    · rw [mup_ne ntf]; exact M.hf
    · rw [mup_ne nto, List.append_nil]; exact M.ho
    · rw [mup_ne ntk, List.append_nil]; exact M.hk
    · intro x u e; rw [mup_old ht0 e]; exact M.old x u e
    · rw [List.append_nil]; exact I.nd
    · rintro j x ρ μ2 hx ⟨ext, hf2, ho2, hk2, ht2, hold2, hnd2, hrc2, hcl2, d9, d10, d11, d12, rfl⟩
      obtain ⟨A, hA, rfl⟩ := map_get hx
      obtain ⟨hA1, hA2⟩ := lots_mem.mp (List.mem_of_getElem? hA)
      have hj := (List.getElem?_eq_some_iff.mp hA).1
      rw [lotsN_len] at hj
      have hj2 : j < 128 := Nat.lt_of_lt_of_le hj (Nat.pow_le_pow_right (by decide) (by omega : n ≤ 7))
      have hel : (ss ++ ext).length ≤ 540 := by
        have hrc3 : ∀ s ∈ ss ++ ext, s ∈ univM R n := fun s hs => by
          rcases List.mem_append.mp hs with z | z
          · exact (I.rc s z).elim fun p hp => spath_univ hp
          · exact (hrc2 s z).elim fun p hp => spath_univ hp
        have := nodup_le hnd2 hrc3
        rw [univ_len, ← hBd] at this
        omega
      have e0 := eat ext
      (conv => whnf)
      refine ⟨_, ho2, ?_⟩
      (conv => whnf)
      (split; rotate_left; (rename_i e_; exact nomatch ((e0).symm.trans e_)); rename_i ts_ e_; cases ((e0).symm.trans e_))
      (conv => whnf)
      refine ⟨R, s, n, A, rfl, hrl, by omega, rch_ptr (I.rc s hsm), hA1, hA2, fun d0 => ?_⟩
      (conv => whnf)
      refine ⟨⟨_, ht2⟩, ?_⟩
      (conv => whnf)
      refine ⟨_, ht2, ?_⟩
      (conv => whnf)
      refine lenOk.mk (by rw [List.length_map, List.length_take, lotsN_len]; omega) ?_
      obtain ⟨b, hb⟩ : ∃ b, b = (roundM R.rows s n A).beh := ⟨_, rfl⟩
      have hrb : Rch R n b := by rw [hb]; exact rch_round (I.rc s hsm) hA2
      have etold : ((lotsN n).take j).map (toldE R n s) ++ [toldE R n s A] = ((lotsN n).take (j + 1)).map (toldE R n s) := by rw [take_get hA, List.map_append] <;> rfl
      have hcl3 : ∀ ss' : List StM, (∀ x ∈ ss ++ ext, x ∈ ss') → b ∈ ss' → ∀ A ∈ (lotsN n).take (j + 1), (roundM R.rows s n A).beh ∈ ss' := fun ss' h1 h2 B hB => by
        rw [take_get hA] at hB
        rcases List.mem_append.mp hB with z | z
        · exact h1 _ (hcl2 B z)
        · rw [List.mem_singleton.mp z, ← hb]; exact h2
      (conv => whnf)
      refine ⟨lK b, by rw [hb] <;> rfl, _, (mup_ne ntk).trans hk2, ?_⟩
      (conv => whnf)
      rw [look_l]
      by_cases hbm : b ∈ ss ++ ext
      · rw [if_pos hbm]
        refine ⟨fun z => (ft_ z).elim, fun _ => ?_⟩
        refine ⟨ext, (mup_ne ntf).trans hf2, (mup_ne nto).trans ho2, (mup_ne ntk).trans hk2, ?_, ?_, hnd2, hrc2, hcl3 _ (fun x hx => hx) hbm, _, _, _, _, rfl⟩
        · rw [mup_same]; exact congrArg (fun z => some (MO.lst z)) etold
        · intro x u e; rw [mup_old ht0 e]; exact hold2 x u e
      · rw [if_neg hbm]
        refine ⟨fun _ => ?_, fun z => (tf_ z).elim⟩
        (conv => whnf)
        refine ⟨lK b, _, by rw [hb] <;> rfl, (mup_ne ntk).trans hk2, lenOk.mk (by rw [fdl_len]; omega) ?_⟩
        (conv => whnf)
        refine ⟨⟨_, (mup_ne nko.symm).trans ((mup_ne nto).trans ho2)⟩, ?_⟩
        (conv => whnf)
        refine ⟨_, (mup_ne nko.symm).trans ((mup_ne nto).trans ho2), ?_⟩
        (conv => whnf)
        refine lenOk.mk (by rw [List.length_map]; omega) ?_
        have eap : ss ++ (ext ++ [b]) = (ss ++ ext) ++ [b] := (List.append_assoc ..).symm
        refine ⟨ext ++ [b], ?_, ?_, ?_, ?_, ?_, ?_, ?_, ?_, _, _, _, _, rfl⟩
        · rw [mup_ne nof.symm, mup_ne nkf.symm, mup_ne ntf]; exact hf2
        · rw [mup_same, hb]; simp [List.map_append]
        · rw [mup_ne nko, mup_same, put_l2 hbm, eap]
          exact congrArg (fun z => some (MO.dct z)) (fdl_congr fun x _ => by unfold fupd; split <;> rfl)
        · rw [mup_ne nto.symm, mup_ne ntk.symm, mup_same]; exact congrArg (fun z => some (MO.lst z)) etold
        · intro x u e; rw [mup_old ho0 e, mup_old hk0 e, mup_old ht0 e]; exact hold2 x u e
        · rw [eap, List.nodup_append]
          exact ⟨hnd2, by simp, fun x hx y hy z => hbm (by rw [← List.mem_singleton.mp hy, ← z]; exact hx)⟩
        · intro x hx
          rcases List.mem_append.mp hx with z | z
          · exact hrc2 x z
          · rw [List.mem_singleton.mp z]; exact hrb
        · rw [eap]
          exact hcl3 _ (fun x hx => List.mem_append_left _ hx) (by simp)
    · rintro ρ μ2 ⟨ext, hf2, ho2, hk2, ht2, hold2, hnd2, hrc2, hcl2, d9, d10, d11, d12, rfl⟩
      rw [List.length_map, List.take_of_length_le (Nat.le_refl _)] at ht2 hcl2
      have e0 := eat ext
      (conv => whnf)
      refine ⟨t, _, rfl, ht2, ht0, ?_⟩
      (conv => whnf)
      refine ⟨_, (mdel_ne nto).trans ho2, ?_⟩
      (conv => whnf)
      (split; rotate_left; (rename_i e_; exact nomatch ((e0).symm.trans e_)); rename_i ts_ e_; cases ((e0).symm.trans e_))
      (conv => whnf)
      refine ⟨lK s, _, rfl, (mdel_ne ntf).trans hf2, lenOk.mk (by rw [fdl_len, List.length_take]; omega) ?_⟩
      (conv => whnf)
      have hnt := nodup_get I.nd hs
      have etk : (ss ++ ext).take (i + 1) = ss.take i ++ [s] := by rw [List.take_append_of_le_length (by omega), take_get hs]
      refine ⟨Bd - (i + 1), by omega, i + 1, ss ++ ext, rfl, by rw [List.length_append]; omega, ⟨?_, ?_, ?_, ?_⟩, ⟨hnd2, List.mem_append_left _ I.st, ?_, ?_⟩, _, _, _, _, _, rfl⟩
      · rw [mup_same, etk, put_l2 hnt]
        exact congrArg (fun z => some (MO.dct z)) (fdl_congr fun x _ => congrFun (fupd_id (f := toldD R n)) x)
      · rw [mup_ne nof, mdel_ne nto]; exact ho2
      · rw [mup_ne nkf, mdel_ne ntk]; exact hk2
      · intro x u e; rw [mup_old hf e, mdel_old ht0 e]; exact hold2 x u e
      · intro x hx
        rcases List.mem_append.mp hx with z | z
        · exact I.rc x z
        · exact hrc2 x z
      · rw [etk]
        intro x hx B hB
        rcases List.mem_append.mp hx with z | z
        · exact List.mem_append_left _ (I.cl x z B hB)
        · rw [List.mem_singleton.mp z]; exact hcl2 B hB
  · have hi2 : i = ss.length := by
      have := of_decide_eq_false hc
      rw [List.length_map] at this
      omega
    subst hi2
    have hcl := I.cl
    have hff := M.hf
    rw [List.take_of_length_le (Nat.le_refl _)] at hcl hff
    (conv => whnf)
    refine ⟨f, _, rfl, hff, hf, μ, fun x u e => ?_, h ss ⟨I.nd, I.st, I.rc, hcl⟩⟩
    rw [mdel_old hf e]; exact M.old x u e
end
end K3
set_option Elab.async false
set_option linter.all false
set_option maxRecDepth 100000
set_option maxHeartbeats 800000
set_option pp.maxSteps 800
/-! KG30: the law's longest waits. -/
namespace K3
open PySem PySem.Spec PyProof.Rows L2
def vainB (R : RuleM) (n a : Nat) (s : StM) (A : List Nat) : Bool := decide (a ∈ A) && !decide (a ∈ gsM R.rows s n A)
def LL (R : RuleM) (n a : Nat) (s : StM) : List StM := ((lotsN n).filter (vainB R n a s)).map fun A => (roundM R.rows s n A).beh
theorem LL_mem {R : RuleM} {n a : Nat} {s t : StM} : t ∈ LL R n a s ↔ VS R n a s t := by
  unfold LL
  rw [List.mem_map]
  constructor
  · rintro ⟨A, hA, rfl⟩
    obtain ⟨h1, h2⟩ := List.mem_filter.mp hA
    obtain ⟨h3, h4⟩ := lots_mem.mp h1
    unfold vainB at h2
    rw [Bool.and_eq_true, Bool.not_eq_true', decide_eq_true_eq, decide_eq_false_iff_not] at h2
    exact ⟨A, h3, h4, h2.1, fun z => h2.2 (((gs_srt h4).2 a).mpr z), rfl⟩
  · rintro ⟨A, h1, h2, h3, h4, rfl⟩
    refine ⟨A, List.mem_filter.mpr ⟨lots_mem.mpr ⟨h1, h2⟩, ?_⟩, rfl⟩
    unfold vainB
    rw [Bool.and_eq_true, Bool.not_eq_true', decide_eq_true_eq, decide_eq_false_iff_not]
    exact ⟨h3, fun z => h4 (((gs_srt h2).2 a).mp z)⟩
theorem LL_len {R : RuleM} {n a : Nat} {s : StM} : (LL R n a s).length ≤ 2 ^ n := by
  unfold LL
  rw [List.length_map, ← lotsN_len n]
  exact List.length_filter_le _ _
def LonP (R : RuleM) (n a : Nat) (ss : List StM) (r : Option Nat) : Prop := match r with
  | none => ∃ s ∈ ss, ∀ k, VP R n a k s
  | some M => (∃ s ∈ ss, VP R n a M s) ∧ ∀ s ∈ ss, ∀ k, VP R n a k s → k ≤ M
section
variable {R : RuleM} {n a : Nat} {ss ks : List StM} {len : StM → Nat}
theorem lf_le (f : FillP ss (LL R n a) ks len) : ∀ (k : Nat) (s : StM), s ∈ ks → VP R n a k s → k ≤ len s
  | 0, _, _, _ => Nat.zero_le _
  | k + 1, s, hs, h => by
    obtain ⟨t, h1, h2⟩ := h
    obtain ⟨h3, h4⟩ := f.lo s hs t (LL_mem.mpr h1)
    have := lf_le f k t h3 h2
    omega
theorem lf_ge (f : FillP ss (LL R n a) ks len) : ∀ (k : Nat) (s : StM), s ∈ ks → k ≤ len s → VP R n a k s
  | 0, _, _, _ => trivial
  | k + 1, s, hs, h => by
    rcases f.hi s hs with e | ⟨t, ht, e⟩
    · omega
    · exact ⟨t, LL_mem.mp ht, lf_ge f k t (f.lo s hs t ht).1 (by omega)⟩
theorem lf_inf {ls : List StM} (h : ∀ s ∈ ls, ∃ t ∈ LL R n a s, t ∈ ls) : ∀ (k : Nat) (s : StM), s ∈ ls → VP R n a k s
  | 0, _, _ => trivial
  | k + 1, s, hs => by
    obtain ⟨t, h1, h2⟩ := h s hs
    exact ⟨t, LL_mem.mp h1, lf_inf h k t h2⟩
end
theorem isS_l {f : StM → D} {s : StM} {ss : List StM} : (!(lookD (fdl f ss) (lK s)).isSome) = !decide (s ∈ ss) := by
  rw [look_l]
  by_cases h : s ∈ ss
  · rw [if_pos h, decide_eq_true h] <;> rfl
  · rw [if_neg h, decide_eq_false h] <;> rfl
theorem toPy_sts (ss : List StM) : toPy (.lst (ss.map lstD)) = some (.list (ss.map stPy)) := by
  unfold toPy; rw [toPys_sts] <;> rfl
theorem nd_inj {α β : Type} {f : α → β} : ∀ {xs : List α}, xs.Nodup → (∀ x y, f x = f y → x = y) → (xs.map f).Nodup
  | [], _, _ => List.nodup_nil
  | x :: xs, nd, h => by
    obtain ⟨n1, n2⟩ := List.nodup_cons.mp nd
    refine List.nodup_cons.mpr ⟨fun z => ?_, nd_inj n2 h⟩
    obtain ⟨y, hy, e⟩ := List.mem_map.mp z
    exact n1 (h y x e ▸ hy)
def leftD (R : RuleM) (n a : Nat) (s : StM) : D := .lst ((LL R n a s).map lstD)
def NmOk (R : RuleM) : Prop := nameOk R.first = true ∧ (∀ r ∈ R.rows, RowOk r)
theorem rch_name {R : RuleM} {n : Nat} {s : StM} (h : NmOk R) (r : Rch R n s) : nameOk s.1 = true := by
  obtain ⟨p, hp⟩ := r
  rcases (mem_univ.mp (spath_univ hp)).1 with e | ⟨q, hq, e⟩
  · rw [e]; exact h.1
  · rw [← e]; exact (h.2 q hq).2.2.2
def S_law_longest : DSp := fun xs μ Φ => ∃ (R : RuleM) (n a : Nat) (ss : List StM), xs = [.dct (fdl (toldD R n) ss), dI (a : Int)] ∧ R.rows.length < 60 ∧ n < 8 ∧ NmOk R ∧ ClsM R n ss ∧ ∀ r, LonP R n a ss r → Φ (dI (lpI r)) μ
section
variable {P : Program} {w : World} {K : PySem.W.Frag} {mg : Str → Option Value} {base : Heap}
theorem sc__law_longest : FnScope ["_law_nexts_here", "_law_asker", "_law_left", "_law_known", "_law_state", "_law_done", "_law_asking_here", "_law_grants", "_law_later", "_law_one"] ["_law_nexts_here", "_law_asker"] (defScope (top 71)) := ⟨rfl, rfl, rfl, by decide +kernel, rfl, by decide +kernel, by decide +kernel⟩
theorem G__law_longest (T : TF w K mg) (F : FnP K "_law_longest" "_law_longest" (top 71) (He.ga K "_law_longest")) (hm : mg "_law_longest" = some (.ref (He.ga K "_law_longest")))  : FnG P w K mg base "_law_longest" ["_law_nexts_here", "_law_asker"] 1 (S_law_longest) := by
  refine fnG_of F hm sc__law_longest (fun _ _ _ _ _ _ us hl => match us, hl with | [_, _], _ => rfl) ?_ ?_
  · (intro ds μ Φ h; first | (obtain ⟨_, rfl, _⟩ := h; rfl) | (obtain ⟨_, _, rfl, _⟩ := h; rfl) | (obtain ⟨_, _, _, rfl, _⟩ := h; rfl) | (obtain ⟨_, _, _, _, rfl, _⟩ := h; rfl) | (obtain ⟨_, _, _, _, _, rfl, _⟩ := h; rfl) | (obtain ⟨_, _, _, _, _, _, rfl, _⟩ := h; rfl) | (obtain ⟨_, _, _, _, _, _, _, rfl, _⟩ := h; rfl) | (obtain ⟨_, _, _, _, _, _, _, _, rfl, _⟩ := h; rfl) | (obtain ⟨_, _, _, _, _, _, _, _, _, rfl, _⟩ := h; rfl) | (obtain ⟨_, _, _, _, _, _, _, _, _, _, rfl, _⟩ := h; rfl) | (obtain ⟨_, _, _, _, _, _, _, _, _, _, _, rfl, _⟩ := h; rfl) | (obtain ⟨_, _, _, _, _, _, _, _, _, _, _, _, rfl, _⟩ := h; rfl))
  intro f cdv A outer s H E hr
  have nd := sc__law_longest.nd
  refine ⟨_, (ss_cons (s_asg (q_tup (a_cons q_dctM (a_cons q_dctM a_nil))) (g_tup rfl (gs_cons (g_name (i := 2) nd rfl (.inr rfl)) (gs_cons (g_name (i := 3) nd rfl (.inr rfl)) gs_nil))))
      (ss_cons (s_for PassesOwn.never rfl (i_keys (q_var 0)) (g_name (i := 4) nd rfl (.inl rfl)) (ss_one (s_asg (q_lc (own := [("_law_asking_here", 6), ("_law_grants", 7), ("_law_later", 8)]) (blk3 (j := 6) (l := 7) (m := 8) (by decide) (by decide) (by decide)) rfl nd (blkOk_by (own := [("_law_asking_here", 6), ("_law_grants", 7), ("_law_later", 8)]) (by kernel_rfl)) (i_list (q_dGet (hu_of hr) (q_var 0) (q_var 4))) (fun _ _ _ _ _ => (pg_tup rfl (pgs_cons (pg_name (i := 6) nd rfl (.inl rfl)) (pgs_cons (pg_name (i := 7) nd rfl (.inl rfl)) (pgs_cons (pg_name (i := 8) nd rfl (.inl rfl)) pgs_nil))))) (fun _ _ _ _ _ => (ts_one (t_w (w_and (t_cmp (op_in_seq) sim_in (q_var 1) (q_var 6) (by rfl)) (w_and1 (t_cmp (op_notIn_seq) sim_in (q_var 1) (q_var 7) (by rfl))))))) (fun _ _ _ _ _ => (q_var 8))) (g_dct (hu_of hr) (q_var 2) (q_var 4)))))
      (ss_frz 2 (ss_cons (s_while PassesOwn.never (t_cmp (op_neE hr.units0) sim_neE (q_var 2) q_dctF (nomark _)) (ss_cons (s_setLc 5 (own := [("_law_state", 4)]) (blk1 4) rfl nd (blkOk_by (own := [("_law_state", 4)]) (by kernel_rfl)) rfl (sw_true rfl rfl rfl (by decide +kernel)) (i_keys (q_var 2)) (fun _ _ _ _ _ => (pg_name (i := 4) nd rfl (.inl rfl))) (fun _ _ _ _ _ => (ts_one (t_cmp (op_eqD hr.units) sim_eqD (q_lc (own := [("_law_one", 9)]) (blk1 9) rfl nd (blkOk_by (own := [("_law_one", 9)]) (by kernel_rfl)) (i_list (q_dGet (hu_of hr) (q_var 2) (q_var 4))) (fun _ _ _ _ _ => (pg_name (i := 9) nd rfl (.inl rfl))) (fun _ _ _ _ _ => (ts_one (t_cmp (op_dNotIn (hu_of hr)) sim_dIn (q_var 9) (q_var 3) (by rfl)))) (fun _ _ _ _ _ => (q_var 9))) (q_lst a_nil) (nomark _)))) (fun _ _ _ _ _ => (q_var 4)))
      (ss_cons (s_if (t_cmp (op_eqD hr.units) sim_eqD (q_var 5) (q_lst a_nil) (nomark _)) (ss_one (s_ret (q_un un_neg sim_neg q_int))) ss_nil)
      (ss_cons (s_for PassesOwn.never rfl (i_list (q_var 5)) (g_name (i := 4) nd rfl (.inl rfl)) (ss_one (s_asg (q_cb (cr_max rfl) sim_maxL rfl (T.free "max" (by simp)) (by decide +kernel) (a_cons (q_op op_catL sim_cat2 (q_lst (a_cons q_int a_nil)) (q_lc (own := [("_law_one", 9)]) (blk1 9) rfl nd (blkOk_by (own := [("_law_one", 9)]) (by kernel_rfl)) (i_list (q_dGet (hu_of hr) (q_var 2) (q_var 4))) (fun _ _ _ _ _ => (pg_name (i := 9) nd rfl (.inl rfl))) (fun _ _ _ _ _ => ts_nil) (fun _ _ _ _ _ => (q_add q_int (q_cty call_int1 sim_int rfl (T.free "int" (by simp)) (by decide +kernel) (a_cons (q_dGet (hu_of hr) (q_var 3) (q_var 9)) a_nil)))))) a_nil)) (g_dct (hu_of hr) (q_var 3) (q_var 4)))))
      (ss_one (s_set 2 nd (q_cty (call_dictP rfl (Nat.lt_of_le_of_lt (Nat.add_le_add_left (by decide) _) hr.units)) sim_dictP rfl (T.free "dict" (by simp)) (by decide +kernel) (a_cons (q_lc (own := [("_law_state", 4)]) (blk1 4) rfl nd (blkOk_by (own := [("_law_state", 4)]) (by kernel_rfl)) (i_keys (q_var 2)) (fun _ _ _ _ _ => (pg_name (i := 4) nd rfl (.inl rfl))) (fun _ _ _ _ _ => (ts_one (t_cmp (op_dNotIn (hu_of hr)) sim_dIn (q_var 4) (q_var 3) (by rfl)))) (fun _ _ _ _ _ => (q_tup (a_cons (q_var 4) (a_cons (q_dGet (hu_of hr) (q_var 2) (q_var 4)) a_nil))))) a_nil))))))))
      (ss_frz 3 (ss_one (s_ret (q_cb (cr_max rfl) sim_maxL rfl (T.free "max" (by simp)) (by decide +kernel) (a_cons (q_lc (own := [("_law_state", 4)]) (blk1 4) rfl nd (blkOk_by (own := [("_law_state", 4)]) (by kernel_rfl)) (i_keys (q_var 3)) (fun _ _ _ _ _ => (pg_name (i := 4) nd rfl (.inl rfl))) (fun _ _ _ _ _ => ts_nil) (fun _ _ _ _ _ => (q_cty call_int1 sim_int rfl (T.free "int" (by simp)) (by decide +kernel) (a_cons (q_dGet (hu_of hr) (q_var 3) (q_var 4)) a_nil)))) a_nil))))))))), ?_⟩
  clear hr nd F hm
  rintro _ μ Φ ⟨R, n, a, ss, rfl, hrl, hn, hnm, C, h⟩
  have hsl : ss.length ≤ 540 := by
    have := nodup_le C.nd fun s hs => (C.rc s hs).elim fun p hp => spath_univ hp
    rw [univ_len] at this
    exact Nat.le_trans this (Nat.le_trans (Nat.mul_le_mul (show R.rows.length + 1 ≤ 60 by omega) (show n + 1 ≤ 9 by omega)) (by decide))
  have hp128 : 2 ^ n ≤ 128 := Nat.pow_le_pow_right (by decide) (by omega : n ≤ 7)
  have hLss : ∀ s ∈ ss, ∀ t ∈ LL R n a s, t ∈ ss := fun s hs t ht => by
    obtain ⟨A, h1, h2, _, _, rfl⟩ := LL_mem.mp ht
    exact C.cl s hs A (lots_mem.mpr ⟨h1, h2⟩)
  have hLnm : ∀ s ∈ ss, ∀ t ∈ LL R n a s, nameOk t.1 = true := fun s hs t ht => rch_name hnm (C.rc t (hLss s hs t ht))
  have hLl : ∀ s, (LL R n a s).length ≤ 128 := fun s => Nat.le_trans LL_len hp128
  (conv => whnf)
  intro f hf
  (conv => whnf)
  intro k hk
  have nkf : k ≠ f := fun z => by rw [z, mup_same] at hk; cases hk
  have hk0 : μ k = none := by have := hk; rwa [mup_ne nkf] at this
  (conv => whnf)
  refine ⟨fun i ρ μ' => μ' f = some (.dct (fdl (leftD R n a) (ss.take i))) ∧ μ' k = some (.dct []) ∧ (∀ x u, μ x = some u → μ' x = some u) ∧ ∃ d4 d5 d6 d7 d8 d9, ρ = [some (.dct (fdl (toldD R n) ss)), some (dI (a : Int)), some (dR f), some (dR k), d4, d5, d6, d7, d8, d9],
    ⟨by rw [mup_ne nkf.symm, mup_same] <;> rfl, mup_same, fun x u e => by rw [mup_old hk0 e, mup_old hf e]; exact e, _, _, _, _, _, _, rfl⟩, ?_, ?_⟩
  · rintro i x ρ μ1 hx ⟨hf1, hk1, hold1, d4, d5, d6, d7, d8, d9, rfl⟩
    rw [lkeys] at hx
    obtain ⟨s, hs, rfl⟩ := map_get hx
    have hsm := List.mem_of_getElem? hs
    have hi := (List.getElem?_eq_some_iff.mp hs).1
    have e1 : lookD (fdl (toldD R n) ss) (lK s) = some (toldD R n s) := look_l1 hsm
    (conv => whnf)
    refine ⟨lK s, rfl, ?_⟩
    (conv => whnf)
    (split; rotate_left; (rename_i e_; exact nomatch ((e1).symm.trans e_)); rename_i ts_ e_; cases ((e1).symm.trans e_))
    (conv => whnf)
    refine LcD.filterG (lotsN n) (toldE R n s) (fun A => lstD (roundM R.rows s n A).beh) (vainB R n a s) (by rw [lotsN_len]; omega) (fun A hA => ⟨_, rfl, fun Ψ hΨ => ?_, fun _ Ψ hΨ => hΨ⟩) ?_
    · (conv => whnf)
      refine ⟨rfl, _, flats_nat A, ?_⟩
      rw [inV_nat]
      (conv => whnf)
      have ev : vainB R n a s A = (decide (a ∈ A) && !decide (a ∈ gsM R.rows s n A)) := rfl
      refine ⟨fun hc => ?_, fun hc => ?_⟩
      · (conv => whnf)
        refine ⟨rfl, _, flats_nat _, ?_⟩
        rw [inV_nat]
        have hc : decide (a ∈ A) = true := hc
        rw [ev, hc, Bool.true_and] at hΨ
        exact hΨ
      · have hc : decide (a ∈ A) = false := hc
        rw [ev, hc, Bool.false_and] at hΨ
        exact hΨ
    · (conv => whnf)
      refine ⟨lK s, _, rfl, hf1, lenOk.mk (by rw [fdl_len, List.length_take]; omega) ?_⟩
      have hnt := nodup_get C.nd hs
      have eL : ((lotsN n).filter (vainB R n a s)).map (fun A => lstD (roundM R.rows s n A).beh) = (LL R n a s).map lstD := by unfold LL; rw [List.map_map] <;> rfl
      rw [eL]
      refine ⟨?_, (mup_ne nkf).trans hk1, fun x u e => by rw [mup_old hf e]; exact hold1 x u e, _, _, _, _, _, _, rfl⟩
      rw [mup_same, take_get hs, put_l2 hnt]
      exact congrArg (fun z => some (MO.dct z)) (fdl_congr fun x _ => congrFun (fupd_id (f := leftD R n a)) x)
  rintro ρ μ1 ⟨hf1, hk1, hold1, d4, d5, d6, d7, d8, d9, rfl⟩
  rw [lkeys, List.length_map, List.take_of_length_le (Nat.le_refl _)] at hf1
  (conv => whnf)
  refine ⟨f, _, rfl, hf1, hf, ?_⟩
  (conv => whnf)
  refine ⟨fun m ρ μ' => ∃ ls ks len, m = ss.length - ks.length ∧ FillP ss (LL R n a) ks len ∧ ls.Nodup ∧ (∀ s, s ∈ ls ↔ s ∈ ss ∧ s ∉ ks) ∧ μ' k = some (.dct (fdl (fun s => dI (len s : Nat)) ks)) ∧ (∀ x u, μ x = some u → μ' x = some u) ∧
    ∃ d4 d5 d6 d7 d8 d9, ρ = [some (.dct (fdl (toldD R n) ss)), some (dI (a : Int)), some (.dct (fdl (leftD R n a) ls)), some (dR k), d4, d5, d6, d7, d8, d9],
    ⟨ss.length, ss, [], fun _ => 0, rfl, FillP.nil _ _ _, C.nd, fun s => by simp, (mdel_ne nkf).trans hk1, fun x u e => by rw [mdel_old hf e]; exact hold1 x u e, _, _, _, _, _, _, rfl⟩, ?_⟩
  clear hf1 hk1 hold1
  clear d4 d5 d6 d7 d8 d9 μ1
  rintro m ρ μ1 ⟨ls, ks, len, rfl, F, hlnd, hls, hk1, hold1, d4, d5, d6, d7, d8, d9, rfl⟩
  have hll : ls.length ≤ 540 := Nat.le_trans (nodup_le hlnd fun s hs => ((hls s).mp hs).1) hsl
  have hkl : ks.length ≤ ss.length := nodup_le F.nd F.sub
  (conv => whnf)
  refine ⟨rfl, ?_⟩
  (conv => whnf)
  refine ⟨fun hc => ?_, fun hc => ?_⟩
  · (conv => whnf)
    rw [lkeys]
    obtain ⟨p, hp⟩ : ∃ p : StM → Bool, p = fun s => decide (((LL R n a s).filter fun t => !decide (t ∈ ks)) = []) := ⟨_, rfl⟩
    refine LcD.filterG ls lstD lstD p (by omega) (fun s hs => ⟨_, rfl, fun Ψ hΨ => ?_, fun _ Ψ hΨ => hΨ⟩) ?_
    · have hss := ((hls s).mp hs).1
      have e1 : lookD (fdl (leftD R n a) ls) (lK s) = some (leftD R n a s) := look_l1 hs
      (conv => whnf)
      refine ⟨lK s, rfl, ?_⟩
      (conv => whnf)
      (split; rotate_left; (rename_i e_; exact nomatch ((e1).symm.trans e_)); rename_i ts_ e_; cases ((e1).symm.trans e_))
      (conv => whnf)
      refine LcD.filterG (LL R n a s) lstD lstD (fun t => !decide (t ∈ ks)) (Nat.le_trans (hLl s) (by decide)) (fun t ht => ⟨_, rfl, fun Ψ' hΨ' => ?_, fun _ Ψ' hΨ' => hΨ'⟩) ?_
      · (conv => whnf)
        refine ⟨lK t, rfl, _, hk1, ?_⟩
        have e := isS_l (f := fun s => dI (len s : Nat)) (s := t) (ss := ks)
        (conv => whnf)
        rw [if_pos rfl, e]
        exact hΨ'
      · (conv => whnf)
        refine ⟨_, toPy_sts _, _, rfl, shaped_sts fun t ht => hLnm s hss t (List.mem_filter.mp ht).1, shaped_nil, ?_⟩
        rw [eqv_nil]
        have e : decide (((LL R n a s).filter fun t => !decide (t ∈ ks)).map stPy = []) = p s := by rw [hp]; simp
        rw [e]
        (conv => whnf)
        exact hΨ
    have hpt : ∀ s, p s = true ↔ ∀ t ∈ LL R n a s, t ∈ ks := fun s => by
      rw [hp]
      simp
    have hpf : ∀ s, p s = false → ∃ t ∈ LL R n a s, t ∉ ks := fun s h => by
      apply Classical.byContradiction
      intro hno
      have : p s = true := (hpt s).mpr fun t ht => Classical.byContradiction fun z => hno ⟨t, ht, z⟩
      rw [h] at this; cases this
    clear hp
    have hdn : ∀ s ∈ ls.filter p, s ∈ ss ∧ s ∉ ks ∧ ∀ t ∈ LL R n a s, t ∈ ks := fun s hs => by
      obtain ⟨h1, h2⟩ := List.mem_filter.mp hs
      exact ⟨((hls s).mp h1).1, ((hls s).mp h1).2, (hpt s).mp h2⟩
    (conv => whnf)
    refine ⟨_, toPy_sts _, _, rfl, shaped_sts fun t ht => rch_name hnm (C.rc t (hdn t ht).1), shaped_nil, ?_⟩
    rw [eqv_nil]
    have e5 : decide ((ls.filter p).map stPy = []) = decide (ls.filter p = []) := by simp
    rw [e5]
    (conv => whnf)
    refine ⟨fun hc2 => ?_, fun hc2 => ?_⟩
    · have hc2 : ls.filter p = [] := of_decide_eq_true hc2
      have hno : ∀ s ∈ ls, ∃ t ∈ LL R n a s, t ∈ ls := fun s hs => by
        have hf : p s = false := by
          have := List.filter_eq_nil_iff.mp hc2 s hs
          simpa using this
        obtain ⟨t, h1, h2⟩ := hpf s hf
        exact ⟨t, h1, (hls t).mpr ⟨hLss s ((hls s).mp hs).1 t h1, h2⟩⟩
      (conv => whnf)
      refine ⟨μ, hold1, h none ?_⟩
      cases ls with
      | nil => exact absurd hc (by simp [fdl])
      | cons s ls => exact ⟨s, ((hls s).mp List.mem_cons_self).1, fun k => lf_inf hno k s List.mem_cons_self⟩
    · have hc2 : ls.filter p ≠ [] := of_decide_eq_false hc2
      have hdnd : (ls.filter p).Nodup := List.Pairwise.filter _ hlnd
      have hdl : (ls.filter p).length ≤ 540 := Nat.le_trans (List.length_filter_le _ _) hll
      have hdls : ∀ s ∈ ls.filter p, s ∈ ls := fun s hs => (List.mem_filter.mp hs).1
      generalize ls.filter p = dn at hdn hc2 hdnd hdl hdls
      (conv => whnf)
      refine ⟨fun j ρ μ2 => ∃ len2, FillP ss (LL R n a) (ks ++ dn.take j) len2 ∧ μ2 k = some (.dct (fdl (fun s => dI (len2 s : Nat)) (ks ++ dn.take j))) ∧ (∀ x u, μ x = some u → μ2 x = some u) ∧
        ∃ d4 d6 d7 d8 d9, ρ = [some (.dct (fdl (toldD R n) ss)), some (dI (a : Int)), some (.dct (fdl (leftD R n a) ls)), some (dR k), d4, some (.lst (dn.map lstD)), d6, d7, d8, d9],
        ⟨len, by rw [List.take_zero, List.append_nil]; exact F, by rw [List.take_zero, List.append_nil]; exact hk1, hold1, _, _, _, _, _, rfl⟩, ?_, ?_⟩
      · rintro j x ρ μ2 hx ⟨len2, F2, hk2, hold2, d4, d6, d7, d8, d9, rfl⟩
        obtain ⟨s, hs, rfl⟩ := map_get hx
        have hsm := List.mem_of_getElem? hs
        obtain ⟨hss, hsk, hsL⟩ := hdn s hsm
        have e1 : lookD (fdl (leftD R n a) ls) (lK s) = some (leftD R n a s) := look_l1 (hdls s hsm)
        have hsn : s ∉ ks ++ dn.take j := fun z => by
          rcases List.mem_append.mp z with z | z
          · exact hsk z
          · exact nodup_get hdnd hs z
        (conv => whnf)
        refine ⟨lK s, rfl, ?_⟩
        (conv => whnf)
        (split; rotate_left; (rename_i e_; exact nomatch ((e1).symm.trans e_)); rename_i ts_ e_; cases ((e1).symm.trans e_))
        (conv => whnf)
        refine LcD.mapG (LL R n a s) lstD (fun t => dI (1 + ((len2 t : Nat) : Int))) (Nat.le_trans (hLl s) (by decide)) (fun t ht => ⟨_, rfl, fun Ψ hΨ => ?_⟩) ?_
        · have e2 : lookD (fdl (fun s => dI (len2 s : Nat)) (ks ++ dn.take j)) (lK t) = some (dI (len2 t : Nat)) := look_l1 (f := fun s => dI (len2 s : Nat)) (List.mem_append_left _ (hsL t ht))
          (conv => whnf)
          refine ⟨lK t, rfl, _, hk2, ?_⟩
          (conv => whnf)
          (split; rotate_left; (rename_i e_; exact nomatch ((e2).symm.trans e_)); rename_i ts_ e_; cases ((e2).symm.trans e_))
          (conv => whnf)
          exact hΨ
        have hLls := hLl s
        (conv => whnf)
        refine ⟨rfl, rfl, ?_⟩
        (conv => whnf)
        refine lenOk.mk (by rw [List.length_map]; simp; omega) ?_
        (conv => whnf)
        refine ⟨(0 : Int) :: (LL R n a s).map (fun t => 1 + ((len2 t : Nat) : Int)), by rw [List.map_cons, List.map_map] <;> rfl, by simp, fun mx hmx hge => ?_⟩
        obtain ⟨kk, rfl⟩ : ∃ kk : Nat, mx = (kk : Int) := by
          rcases List.mem_cons.mp hmx with z | z
          · exact ⟨0, z⟩
          · obtain ⟨t, _, e⟩ := List.mem_map.mp z
            exact ⟨1 + len2 t, by rw [← e]; omega⟩
        have hkl2 : (ks ++ dn.take j).length ≤ ss.length := nodup_le F2.nd F2.sub
        (conv => whnf)
        refine ⟨lK s, _, rfl, hk2, lenOk.mk (by rw [fdl_len]; omega) ?_⟩
        refine ⟨fupd len2 s kk, ?_, ?_, fun x u e => by rw [mup_old hk0 e]; exact hold2 x u e, _, _, _, _, _, rfl⟩
        · rw [take_get hs, ← List.append_assoc]
          refine F2.add hss hsn (fun t ht => List.mem_append_left _ (hsL t ht)) (fun t ht => ?_) ?_
          · have := hge _ (List.mem_cons_of_mem _ (List.mem_map.mpr ⟨t, ht, rfl⟩))
            omega
          · rcases List.mem_cons.mp hmx with z | z
            · exact .inl (by omega)
            · obtain ⟨t, ht, e⟩ := List.mem_map.mp z
              exact .inr ⟨t, ht, by omega⟩
        · rw [mup_same, take_get hs, ← List.append_assoc, put_l2 hsn]
          refine congrArg (fun z => some (MO.dct z)) (fdl_congr fun x _ => ?_)
          unfold fupd
          split <;> rfl
      · rintro ρ μ2 ⟨len2, F2, hk2, hold2, d4, d6, d7, d8, d9, rfl⟩
        rw [List.length_map, List.take_of_length_le (Nat.le_refl _)] at F2 hk2
        have hkl2 : (ks ++ dn).length ≤ ss.length := nodup_le F2.nd F2.sub
        have hdpos : 0 < dn.length := List.length_pos_iff.mpr hc2
        (conv => whnf)
        rw [lkeys]
        refine LcD.filterG ls lstD (fun s => pairD (lK s, leftD R n a s)) (fun s => !decide (s ∈ ks ++ dn)) (by omega) (fun s hs => ⟨_, rfl, fun Ψ hΨ => ?_, fun _ Ψ hΨ => ?_⟩) ?_
        · (conv => whnf)
          refine ⟨lK s, rfl, _, hk2, ?_⟩
          have e := isS_l (f := fun s => dI (len2 s : Nat)) (s := s) (ss := ks ++ dn)
          (conv => whnf)
          rw [if_pos rfl, e]
          exact hΨ
        · have e1 : lookD (fdl (leftD R n a) ls) (lK s) = some (leftD R n a s) := look_l1 hs
          (conv => whnf)
          refine ⟨lK s, rfl, ?_⟩
          (conv => whnf)
          (split; rotate_left; (rename_i e_; exact nomatch ((e1).symm.trans e_)); rename_i ts_ e_; cases ((e1).symm.trans e_))
          (conv => whnf)
          exact hΨ
        (conv => whnf)
        refine ⟨fdl (leftD R n a) (ls.filter fun s => !decide (s ∈ ks ++ dn)), by unfold fdl; rw [List.map_map] <;> rfl, ?_, ?_⟩
        · unfold fdl
          rw [List.map_map]
          have hnd : (ls.filter fun s => !decide (s ∈ ks ++ dn)).Nodup := List.Pairwise.filter _ hlnd
          exact nd_inj hnd fun x y e => lK_inj e
        (conv => whnf)
        refine ⟨ss.length - (ks ++ dn).length, by rw [List.length_append] at hkl2 ⊢; omega, ls.filter fun s => !decide (s ∈ ks ++ dn), ks ++ dn, len2, rfl, F2, List.Pairwise.filter _ hlnd, fun s => ?_, hk2, hold2, _, _, _, _, _, _, rfl⟩
        rw [List.mem_filter, hls, Bool.not_eq_true', decide_eq_false_iff_not, List.mem_append, not_or]
        exact ⟨fun z => ⟨z.1.1, z.2⟩, fun z => ⟨⟨z.1, z.2.1⟩, z.2⟩⟩
  · have hle : ls = [] := by
      cases ls with
      | nil => rfl
      | cons s ls => exact absurd hc (by simp [fdl])
    have hall : ∀ s ∈ ss, s ∈ ks := fun s hs => Classical.byContradiction fun z => by
      have := (hls s).mpr ⟨hs, z⟩
      rw [hle] at this; cases this
    (conv => whnf)
    refine ⟨k, _, rfl, hk1, hk0, ?_⟩
    (conv => whnf)
    rw [lkeys]
    refine LcD.mapG ks lstD (fun s => dI (len s : Nat)) (by omega) (fun s hs => ⟨_, rfl, fun Ψ hΨ => ?_⟩) ?_
    · have e2 : lookD (fdl (fun s => dI (len s : Nat)) ks) (lK s) = some (dI (len s : Nat)) := look_l1 (f := fun s => dI (len s : Nat)) hs
      (conv => whnf)
      refine ⟨lK s, rfl, ?_⟩
      (conv => whnf)
      (split; rotate_left; (rename_i e_; exact nomatch ((e2).symm.trans e_)); rename_i ts_ e_; cases ((e2).symm.trans e_))
      (conv => whnf)
      exact hΨ
    (conv => whnf)
    refine ⟨ks.map (fun s => ((len s : Nat) : Int)), by rw [List.map_map] <;> rfl, ?_, fun mx hmx hge => ?_⟩
    · rw [List.length_map]; exact List.length_pos_of_mem (hall _ C.st)
    obtain ⟨s, hs, rfl⟩ := List.mem_map.mp hmx
    refine ⟨μ, fun x u e => by rw [mdel_old hk0 e]; exact hold1 x u e, h (some (len s)) ⟨⟨s, F.sub s hs, lf_ge F _ s hs (Nat.le_refl _)⟩, fun t ht j hj => ?_⟩⟩
    have h1 := lf_le F j t (hall t ht) hj
    have h2 := hge _ (List.mem_map.mpr ⟨t, hall t ht, rfl⟩)
    omega
end
end K3
set_option Elab.async false
set_option linter.all false
set_option maxRecDepth 100000
set_option maxHeartbeats 800000
set_option pp.maxSteps 800
/-! KG31: the law's waits; the most rounds in vain. -/
namespace K3
open PySem PySem.Spec PyProof.Rows L2
def oI (o : Option Nat) : D := match o with | none => dN | some M => dI (M : Nat)
theorem cls_rch {R : RuleM} {n : Nat} {ss : List StM} (C : ClsM R n ss) {s : StM} : s ∈ ss ↔ Rch R n s := by
  constructor
  · exact C.rc s
  · rintro ⟨p, hp⟩
    induction hp with
    | nil => exact C.st
    | snoc h ha ih => exact C.cl _ ih _ (lots_mem.mpr ⟨by simp, fun x hx => by rw [List.mem_singleton.mp hx]; exact ha⟩)
def S_waited : DSp := fun xs μ Φ => ∃ (R : RuleM) (n : Nat), xs = [lruleD R, dI (n : Int)] ∧ R.rows.length < 60 ∧ NmOk R ∧ 0 < n ∧ n < 8 ∧ ∀ o, WaitIs R n o → Φ (oI o) μ
def S_most : DSp := fun xs μ Φ => ∃ (gss : List (List Nat)) (b : Bool) (As : List (Bool × List Nat)) (a : Nat), xs = [.tup (gss.map tupI), sqD b (As.map RdD), dI (a : Int)] ∧ gss.length = As.length ∧ Φ (dI ((mivF a gss (As.map (·.2)) (0, 0)).1 : Nat)) μ
section
variable {P : Program} {w : World} {K : PySem.W.Frag} {mg : Str → Option Value} {base : Heap}
theorem sc__law_waited : FnScope ["_law_rule_here", "_law_askers", "_law_nexts_here", "_law_found", "_law_asker", "_law_many"] ["_law_rule_here", "_law_askers"] (defScope (top 72)) := ⟨rfl, rfl, rfl, by decide +kernel, rfl, by decide +kernel, by decide +kernel⟩
theorem G__law_waited (T : TF w K mg) (F : FnP K "_law_waited" "_law_waited" (top 72) (He.ga K "_law_waited")) (hm : mg "_law_waited" = some (.ref (He.ga K "_law_waited"))) (G__law_longest : FnG P w K mg base "_law_longest" ["_law_nexts_here", "_law_asker"] 1 (S_law_longest)) (G__law_nexts : FnG P w K mg base "_law_nexts" ["_law_rule_here", "_law_askers"] 3 (S_nexts)) : FnG P w K mg base "_law_waited" ["_law_rule_here", "_law_askers"] 4 (S_waited) := by
  refine fnG_of F hm sc__law_waited (fun _ _ _ _ _ _ us hl => match us, hl with | [_, _], _ => rfl) ?_ ?_
  · (intro ds μ Φ h; first | (obtain ⟨_, rfl, _⟩ := h; rfl) | (obtain ⟨_, _, rfl, _⟩ := h; rfl) | (obtain ⟨_, _, _, rfl, _⟩ := h; rfl) | (obtain ⟨_, _, _, _, rfl, _⟩ := h; rfl) | (obtain ⟨_, _, _, _, _, rfl, _⟩ := h; rfl) | (obtain ⟨_, _, _, _, _, _, rfl, _⟩ := h; rfl) | (obtain ⟨_, _, _, _, _, _, _, rfl, _⟩ := h; rfl) | (obtain ⟨_, _, _, _, _, _, _, _, rfl, _⟩ := h; rfl) | (obtain ⟨_, _, _, _, _, _, _, _, _, rfl, _⟩ := h; rfl) | (obtain ⟨_, _, _, _, _, _, _, _, _, _, rfl, _⟩ := h; rfl) | (obtain ⟨_, _, _, _, _, _, _, _, _, _, _, rfl, _⟩ := h; rfl) | (obtain ⟨_, _, _, _, _, _, _, _, _, _, _, _, rfl, _⟩ := h; rfl))
  intro f cdv A outer s H E hr
  have nd := sc__law_waited.nd
  refine ⟨_, (ss_cons (s_par 2 3 rfl nd (a_cons (q_call G__law_nexts (hr.mono (by decide)) rfl (a_cons (q_var 0) (a_cons (q_var 1) a_nil))) (a_cons q_int a_nil)) rfl)
      (ss_cons (s_for PassesOwn.never rfl (i_range1 rfl (T.free "range" (by simp)) (a_cons (q_var 1) a_nil)) (g_name (i := 4) nd rfl (.inl rfl)) (ss_cons (s_set 5 nd (q_call G__law_longest (hr.mono (by decide)) rfl (a_cons (q_var 2) (a_cons (q_var 4) a_nil))))
      (ss_cons (s_if (t_lt (q_var 5) q_int) (ss_one (s_ret q_non)) ss_nil)
      (ss_one (s_set 3 nd (q_cb (call_max2 rfl) sim_max2 rfl (T.free "max" (by simp)) (by decide +kernel) (a_cons (q_cty call_int1 sim_int rfl (T.free "int" (by simp)) (by decide +kernel) (a_cons (q_var 3) a_nil)) (a_cons (q_cty call_int1 sim_int rfl (T.free "int" (by simp)) (by decide +kernel) (a_cons (q_var 5) a_nil)) a_nil))))))))
      (ss_one (s_ret (q_var 3))))), ?_⟩
  clear hr nd F hm
  rintro _ μ Φ ⟨R, n, rfl, hrl, hnm, hn0, hn, h⟩
  (conv => whnf)
  refine ⟨R, n, rfl, hrl, hn, fun ss C => ?_⟩
  (conv => whnf)
  refine ⟨⟨by omega, by omega⟩, fun i ρ μ' => ∃ F : Nat, μ' = μ ∧ (∀ b, b < i → ∀ s ∈ ss, ∀ k, VP R n b k s → k ≤ F) ∧ (F = 0 ∨ ∃ b, b < i ∧ ∃ s ∈ ss, VP R n b F s) ∧ ∃ d4 d5, ρ = [some (lruleD R), some (dI (n : Int)), some (.dct (fdl (toldD R n) ss)), some (dI (F : Nat)), d4, d5],
    ⟨0, rfl, (fun b hb => absurd hb (Nat.not_lt_zero b)), .inl rfl, _, _, rfl⟩, ?_, ?_⟩
  · rintro i x ρ μ' hx ⟨F, rfl, hF, hF2, d4, d5, rfl⟩
    obtain ⟨hi, rfl⟩ := rng_get hx
    (conv => whnf)
    refine ⟨R, n, i, ss, rfl, hrl, hn, hnm, C, fun r hr => ?_⟩
    cases r with
    | none =>
      obtain ⟨s, hs, hk⟩ := hr
      (conv => whnf)
      refine ⟨fun _ => ?_, fun z => (tf_ z).elim⟩
      (conv => whnf)
      exact ⟨_, fun _ _ e => e, h none ⟨i, hi, s, C.rc s hs, hk⟩⟩
    | some M =>
      obtain ⟨⟨s, hs, hk⟩, hb⟩ := hr
      (conv => whnf)
      refine ⟨fun z => absurd (of_decide_eq_true z) (by show ¬ (M : Int) < 0; omega), fun _ => ?_⟩
      (conv => whnf)
      have e : (if lpI (some M) > ((F : Nat) : Int) then lpI (some M) else ((F : Nat) : Int)) = ((max F M : Nat) : Int) := by
        show (if (M : Int) > (F : Int) then (M : Int) else (F : Int)) = _
        split <;> omega
      refine ⟨max F M, rfl, fun b hb' s hs k hk => ?_, ?_, _, _, by rw [e] <;> rfl⟩
      · by_cases hbi : b = i
        · have := hb s hs k (hbi ▸ hk)
          omega
        · have := hF b (by omega) s hs k hk
          omega
      · by_cases hMF : F ≤ M
        · rw [Nat.max_eq_right hMF]
          exact .inr ⟨i, by omega, s, hs, hk⟩
        · rw [Nat.max_eq_left (by omega)]
          exact hF2.imp id fun ⟨b, h1, h2⟩ => ⟨b, by omega, h2⟩
  · rintro ρ μ' ⟨F, rfl, hF, hF2, d4, d5, rfl⟩
    rw [rngD_len, Int.toNat_natCast] at hF hF2
    (conv => whnf)
    refine ⟨_, fun _ _ e => e, h (some F) ⟨?_, fun a ha s hs k hk => hF a ha s ((cls_rch C).mpr hs) k hk⟩⟩
    rcases hF2 with rfl | ⟨b, hb, s, hs, hk⟩
    · exact ⟨0, hn0, _, rch_start, trivial⟩
    · exact ⟨b, hb, s, C.rc s hs, hk⟩
theorem sc__law_most_in_vain : FnScope ["_law_grants", "_law_rounds_here", "_law_asker", "_law_found", "_law_here", "_law_some", "_law_asking_here"] ["_law_grants", "_law_rounds_here", "_law_asker"] (defScope (top 75)) := ⟨rfl, rfl, rfl, by decide +kernel, rfl, by decide +kernel, by decide +kernel⟩
theorem G__law_most_in_vain (T : TF w K mg) (F : FnP K "_law_most_in_vain" "_law_most_in_vain" (top 75) (He.ga K "_law_most_in_vain")) (hm : mg "_law_most_in_vain" = some (.ref (He.ga K "_law_most_in_vain")))  : FnG P w K mg base "_law_most_in_vain" ["_law_grants", "_law_rounds_here", "_law_asker"] 1 (S_most) := by
  refine fnG_of F hm sc__law_most_in_vain (fun _ _ _ _ _ _ us hl => match us, hl with | [_, _, _], _ => rfl) ?_ ?_
  · (intro ds μ Φ h; first | (obtain ⟨_, rfl, _⟩ := h; rfl) | (obtain ⟨_, _, rfl, _⟩ := h; rfl) | (obtain ⟨_, _, _, rfl, _⟩ := h; rfl) | (obtain ⟨_, _, _, _, rfl, _⟩ := h; rfl) | (obtain ⟨_, _, _, _, _, rfl, _⟩ := h; rfl) | (obtain ⟨_, _, _, _, _, _, rfl, _⟩ := h; rfl) | (obtain ⟨_, _, _, _, _, _, _, rfl, _⟩ := h; rfl) | (obtain ⟨_, _, _, _, _, _, _, _, rfl, _⟩ := h; rfl) | (obtain ⟨_, _, _, _, _, _, _, _, _, rfl, _⟩ := h; rfl) | (obtain ⟨_, _, _, _, _, _, _, _, _, _, rfl, _⟩ := h; rfl) | (obtain ⟨_, _, _, _, _, _, _, _, _, _, _, rfl, _⟩ := h; rfl) | (obtain ⟨_, _, _, _, _, _, _, _, _, _, _, _, rfl, _⟩ := h; rfl))
  intro f cdv A outer s H E hr
  have nd := sc__law_most_in_vain.nd
  refine ⟨_, (ss_cons (s_asg (q_tup (a_cons q_int (a_cons q_int a_nil))) (g_tup rfl (gs_cons (g_name (i := 3) nd rfl (.inl rfl)) (gs_cons (g_name (i := 4) nd rfl (.inl rfl)) gs_nil))))
      (ss_cons (s_for PassesOwn.never rfl (i_zip rfl (T.free "zip" (by simp)) (a_cons (q_var 0) (a_cons (q_var 1) a_nil))) (g_tup rfl (gs_cons (g_name (i := 5) nd rfl (.inl rfl)) (gs_cons (g_name (i := 6) nd rfl (.inl rfl)) gs_nil))) (ss_cons (s_set 4 nd (q_if (t_w (w_and (t_cmp (op_in_seq) sim_in (q_var 2) (q_var 6) (by rfl)) (w_and1 (t_cmp (op_notIn_seq) sim_in (q_var 2) (q_var 5) (by rfl))))) (q_add (q_var 4) q_int) q_int))
      (ss_one (s_set 3 nd (q_cb (call_max2 rfl) sim_max2 rfl (T.free "max" (by simp)) (by decide +kernel) (a_cons (q_cty call_int1 sim_int rfl (T.free "int" (by simp)) (by decide +kernel) (a_cons (q_var 3) a_nil)) (a_cons (q_cty call_int1 sim_int rfl (T.free "int" (by simp)) (by decide +kernel) (a_cons (q_var 4) a_nil)) a_nil)))))))
      (ss_one (s_ret (q_var 3))))), ?_⟩
  clear hr nd F hm
  rintro _ μ Φ ⟨gss, b, As, a, rfl, hlen, h⟩
  rcases b with _ | _
  · (conv => whnf)
    refine ⟨fun i ρ μ' => μ' = μ ∧ ∃ F hh : Nat, mivF a (gss.drop i) ((As.drop i).map (·.2)) (F, hh) = mivF a gss (As.map (·.2)) (0, 0) ∧ ∃ d5 d6, ρ = [some (.tup (gss.map tupI)), some (sqD false (As.map RdD)), some (dI (a : Int)), some (dI (F : Nat)), some (dI (hh : Nat)), d5, d6],
      ⟨rfl, 0, 0, rfl, _, _, rfl⟩, ?_, ?_⟩
    · rintro i x ρ μ' hx ⟨rfl, F, hh, hF, d5, d6, rfl⟩
      have hi := (List.getElem?_eq_some_iff.mp hx).1
      rw [zipD_len, List.length_map, List.length_map] at hi
      have hi1 : i < gss.length := by omega
      have hi2 : i < As.length := by omega
      have eg : gss[i]? = some (gss[i]'hi1) := List.getElem?_eq_getElem hi1
      have ea : As[i]? = some (As[i]'hi2) := List.getElem?_eq_getElem hi2
      generalize gss[i]'hi1 = gs at eg
      generalize As[i]'hi2 = q at ea
      have hx2 := zipD_get (xs := gss.map tupI) (ys := As.map RdD) (i := i) (x := tupI gs) (y := RdD q) (by rw [List.getElem?_map, eg] <;> rfl) (by rw [List.getElem?_map, ea] <;> rfl)
      rw [hx2] at hx
      cases hx
      rw [drop_get eg, drop_get ea, List.map_cons] at hF
      have hF : mivF a (gss.drop (i + 1)) ((As.drop (i + 1)).map (·.2)) (max F (if a ∈ q.2 ∧ a ∉ gs then hh + 1 else 0), if a ∈ q.2 ∧ a ∉ gs then hh + 1 else 0) = mivF a gss (As.map (·.2)) (0, 0) := hF
      obtain ⟨c, A⟩ := q
      have mx : ∀ u v : Nat, (if ((v : Nat) : Int) > ((u : Nat) : Int) then ((v : Nat) : Int) else ((u : Nat) : Int)) = ((max u v : Nat) : Int) := fun u v => by split <;> omega
      cases c
      all_goals
        (conv => whnf)
        refine ⟨rfl, _, flats_nat A, ?_⟩
        rw [inV_nat]
        (conv => whnf)
        refine ⟨fun hc => ?_, fun hc => ?_⟩
        · have hc : a ∈ A := of_decide_eq_true hc
          (conv => whnf)
          refine ⟨rfl, _, flats_nat gs, ?_⟩
          rw [inV_nat]
          (conv => whnf)
          refine ⟨fun hc2 => ?_, fun hc2 => ?_⟩
          · have hc2 : a ∉ gs := fun z => by
              have hc2 : (!decide (a ∈ gs)) = true := hc2
              simp [z] at hc2
            rw [if_pos ⟨hc, hc2⟩] at hF
            (conv => whnf)
            exact ⟨rfl, max F (hh + 1), hh + 1, hF, _, _, by rw [← mx F (hh + 1)] <;> rfl⟩
          · have hc2 : ¬ (a ∈ A ∧ a ∉ gs) := fun z => by
              have hc2 : (!decide (a ∈ gs)) = false := hc2
              simp [z.2] at hc2
            rw [if_neg hc2] at hF
            (conv => whnf)
            exact ⟨rfl, max F 0, 0, hF, _, _, by rw [← mx F 0] <;> rfl⟩
        · have hc : ¬ (a ∈ A ∧ a ∉ gs) := fun z => (of_decide_eq_false hc) z.1
          rw [if_neg hc] at hF
          (conv => whnf)
          refine ⟨fun z => (ft_ z).elim, fun _ => ?_⟩
          (conv => whnf)
          exact ⟨rfl, max F 0, 0, hF, _, _, by rw [← mx F 0] <;> rfl⟩
    · rintro ρ μ' ⟨rfl, F, hh, hF, d5, d6, rfl⟩
      rw [zipD_len, List.length_map, List.length_map, hlen, Nat.min_self, List.drop_eq_nil_of_le (by omega), List.drop_eq_nil_of_le (Nat.le_refl _)] at hF
      have hF : (F, hh) = mivF a gss (As.map (·.2)) (0, 0) := hF
      rw [← hF] at h
      exact ⟨_, fun _ _ e => e, h⟩
  · (conv => whnf)
    refine ⟨fun i ρ μ' => μ' = μ ∧ ∃ F hh : Nat, mivF a (gss.drop i) ((As.drop i).map (·.2)) (F, hh) = mivF a gss (As.map (·.2)) (0, 0) ∧ ∃ d5 d6, ρ = [some (.tup (gss.map tupI)), some (sqD true (As.map RdD)), some (dI (a : Int)), some (dI (F : Nat)), some (dI (hh : Nat)), d5, d6],
      ⟨rfl, 0, 0, rfl, _, _, rfl⟩, ?_, ?_⟩
    · rintro i x ρ μ' hx ⟨rfl, F, hh, hF, d5, d6, rfl⟩
      have hi := (List.getElem?_eq_some_iff.mp hx).1
      rw [zipD_len, List.length_map, List.length_map] at hi
      have hi1 : i < gss.length := by omega
      have hi2 : i < As.length := by omega
      have eg : gss[i]? = some (gss[i]'hi1) := List.getElem?_eq_getElem hi1
      have ea : As[i]? = some (As[i]'hi2) := List.getElem?_eq_getElem hi2
      generalize gss[i]'hi1 = gs at eg
      generalize As[i]'hi2 = q at ea
      have hx2 := zipD_get (xs := gss.map tupI) (ys := As.map RdD) (i := i) (x := tupI gs) (y := RdD q) (by rw [List.getElem?_map, eg] <;> rfl) (by rw [List.getElem?_map, ea] <;> rfl)
      rw [hx2] at hx
      cases hx
      rw [drop_get eg, drop_get ea, List.map_cons] at hF
      have hF : mivF a (gss.drop (i + 1)) ((As.drop (i + 1)).map (·.2)) (max F (if a ∈ q.2 ∧ a ∉ gs then hh + 1 else 0), if a ∈ q.2 ∧ a ∉ gs then hh + 1 else 0) = mivF a gss (As.map (·.2)) (0, 0) := hF
      obtain ⟨c, A⟩ := q
      have mx : ∀ u v : Nat, (if ((v : Nat) : Int) > ((u : Nat) : Int) then ((v : Nat) : Int) else ((u : Nat) : Int)) = ((max u v : Nat) : Int) := fun u v => by split <;> omega
      cases c
      all_goals
        (conv => whnf)
        refine ⟨rfl, _, flats_nat A, ?_⟩
        rw [inV_nat]
        (conv => whnf)
        refine ⟨fun hc => ?_, fun hc => ?_⟩
        · have hc : a ∈ A := of_decide_eq_true hc
          (conv => whnf)
          refine ⟨rfl, _, flats_nat gs, ?_⟩
          rw [inV_nat]
          (conv => whnf)
          refine ⟨fun hc2 => ?_, fun hc2 => ?_⟩
          · have hc2 : a ∉ gs := fun z => by
              have hc2 : (!decide (a ∈ gs)) = true := hc2
              simp [z] at hc2
            rw [if_pos ⟨hc, hc2⟩] at hF
            (conv => whnf)
            exact ⟨rfl, max F (hh + 1), hh + 1, hF, _, _, by rw [← mx F (hh + 1)] <;> rfl⟩
          · have hc2 : ¬ (a ∈ A ∧ a ∉ gs) := fun z => by
              have hc2 : (!decide (a ∈ gs)) = false := hc2
              simp [z.2] at hc2
            rw [if_neg hc2] at hF
            (conv => whnf)
            exact ⟨rfl, max F 0, 0, hF, _, _, by rw [← mx F 0] <;> rfl⟩
        · have hc : ¬ (a ∈ A ∧ a ∉ gs) := fun z => (of_decide_eq_false hc) z.1
          rw [if_neg hc] at hF
          (conv => whnf)
          refine ⟨fun z => (ft_ z).elim, fun _ => ?_⟩
          (conv => whnf)
          exact ⟨rfl, max F 0, 0, hF, _, _, by rw [← mx F 0] <;> rfl⟩
    · rintro ρ μ' ⟨rfl, F, hh, hF, d5, d6, rfl⟩
      rw [zipD_len, List.length_map, List.length_map, hlen, Nat.min_self, List.drop_eq_nil_of_le (by omega), List.drop_eq_nil_of_le (Nat.le_refl _)] at hF
      have hF : (F, hh) = mivF a gss (As.map (·.2)) (0, 0) := hF
      rw [← hF] at h
      exact ⟨_, fun _ _ e => e, h⟩
end
end K3
set_option Elab.async false
set_option linter.all false
set_option maxRecDepth 100000
set_option maxHeartbeats 1600000
set_option pp.maxSteps 800
/-! KG32: the law. -/
namespace K3
open PySem PySem.Spec PyProof.Rows L2
theorem long_len {R : RuleM} {n : Nat} {r : Option (Nat × List Nat × List (List Nat))} (hr : R.rows.length < 60) (hn : n < 60) (h : LongP R n r) : ∀ a p As, r = some (a, p, As) → p.length ≤ 3600 ∧ As.length ≤ 3600 := by
  intro a p As e
  subst e
  obtain ⟨ways, Ls, kss, lens, w, c, h⟩ := h
  obtain ⟨hw, ha, s, t, hsp, hq, hl, hmax⟩ := h
  have h1 : ways.length ≤ 3600 := Nat.le_trans w.len (Nat.le_trans (Nat.mul_le_mul (show R.rows.length + 1 ≤ 60 by omega) (show n + 1 ≤ 60 by omega)) (by decide))
  have h2 := (w.pt _ hsp).2
  obtain ⟨wm, hall⟩ := hw a ha
  have h3 := wm.fill.bd s (hall s (keyS_of_mem hsp))
  have h4 := nodup_le wm.fill.nd wm.fill.sub
  have h5 : (keysS ways).length = ways.length := by unfold keysS; rw [List.length_map]
  have h2 : p.length < ways.length := h2
  exact ⟨by omega, by omega⟩
theorem log_small {M : Nat} (h : M ≤ 3600) : ((M : Nat) : Int).natAbs.log2 < 1920 := by
  rw [Int.natAbs_natCast]
  by_cases h0 : M = 0
  · subst h0; decide
  · rw [Nat.log2_lt h0]
    exact Nat.lt_of_lt_of_le (show M < 2 ^ 12 by omega) (Nat.pow_le_pow_right (by decide) (by decide))
theorem cut_app {xs ys : List D} : cutD (xs ++ ys) (some (xs.length : Int)) none = ys := by
  unfold cutD
  rw [HT.sIx_none, HT.sIx_nat, Nat.min_eq_left (by simp), List.drop_left, List.take_of_length_le (by simp)]
def S_law : DSp := fun xs μ Φ => ∃ ns : List Int, xs = [.lst (ns.map dI)] ∧ ns.length < 1000 ∧ Φ (dB true) μ
section
variable {P : Program} {w : World} {K : PySem.W.Frag} {mg : Str → Option Value} {base : Heap}
theorem sc_law : FnScope ["_law_script", "_law_k", "_law_box", "_law_told", "_law_rule_here", "_law_ahead", "_law_askers", "_law_many", "_law_shown", "_law_asker", "_law_before", "_law_vain", "_law_grants", "_law_rounds_here", "_law_one"] ["_law_script"] (defScope (top 76)) := ⟨rfl, rfl, rfl, by decide +kernel, rfl, by decide +kernel, by decide +kernel⟩
theorem B_law (T : TF w K mg) (G_Rule___call__ : CallG P w K mg base (He.ga K "Rule") ["self", "askers", "rounds"] 5 ((S_RuleCall K))) (G__law_home : FnG P w K mg base "_law_home" ["_law_rule_here"] 6 ((S_home K))) (G__law_most_in_vain : FnG P w K mg base "_law_most_in_vain" ["_law_grants", "_law_rounds_here", "_law_asker"] 1 (S_most)) (G__law_rounds : FnG P w K mg base "_law_rounds" ["_law_box", "_law_askers", "_law_many"] 4 (S_rounds)) (G__law_rule : FnG P w K mg base "_law_rule" ["_law_box", "_law_most"] 4 (S_rule)) (G__law_seed : FnG P w K mg base "_law_seed" ["_law_script", "_law_k"] 1 (S_seed)) (G__law_waited : FnG P w K mg base "_law_waited" ["_law_rule_here", "_law_askers"] 4 (S_waited)) (G_longest : FnG P w K mg base "longest" ["rule", "askers"] 9 ((S_longest K))) (G_play : FnG P w K mg base "play" ["rule", "askers", "rounds"] 4 ((S_play K))) (G_waits : FnG P w K mg base "waits" ["rule", "askers"] 10 ((S_waits K))) : ∀ {f : Addr} {cdv : Value} {A : Around} {outer : List Env} {s : Shared} {H : Hp} {E : XK}, Room 10 (A.deeper (envOfC "law" (defScope (top 76)) s.heap.objs.size f cdv)) → ∃ ds, QSs (cxOf CX0 P w K mg base ["_law_script", "_law_k", "_law_box", "_law_told", "_law_rule_here", "_law_ahead", "_law_askers", "_law_many", "_law_shown", "_law_asker", "_law_before", "_law_vain", "_law_grants", "_law_rounds_here", "_law_one"] "law" (defScope (top 76)) f cdv A outer s H E).nox (defBody (top 76)) ds ∧ ∀ args μ Φ, (S_law : DSp) args μ Φ → ds (endD μ Φ) (startD (["_law_script", "_law_k", "_law_box", "_law_told", "_law_rule_here", "_law_ahead", "_law_askers", "_law_many", "_law_shown", "_law_asker", "_law_before", "_law_vain", "_law_grants", "_law_rounds_here", "_law_one"] : List Str).length args) μ := by
  intro f cdv A outer s H E hr
  have nd := sc_law.nd
  refine ⟨_, (ss_cons (s_for PassesOwn.never rfl (i_range1 rfl (T.free "range" (by simp)) (a_cons (q_cb (call_max2 rfl) sim_max2 rfl (T.free "max" (by simp)) (by decide +kernel) (a_cons q_int (a_cons (q_cb (call_min2 rfl) sim_min2 rfl (T.free "min" (by simp)) (by decide +kernel) (a_cons q_int (a_cons (q_cb call_len_seq sim_len rfl (T.free "len" (by simp)) (by decide +kernel) (a_cons (q_var 0) a_nil)) a_nil))) a_nil))) a_nil)) (g_name (i := 1) nd rfl (.inl rfl)) (ss_cons (s_set 2 nd (q_call G__law_seed (hr.mono (by decide)) rfl (a_cons (q_var 0) (a_cons (q_var 1) a_nil))))
      (ss_cons (s_set 3 nd (q_call G__law_rule (hr.mono (by decide)) rfl (a_cons (q_var 2) (a_cons q_int a_nil))))
      (ss_cons (s_par 4 5 rfl nd (a_cons (q_call G__law_home (hr.mono (by decide)) rfl (a_cons (q_var 3) a_nil)) (a_cons q_int a_nil)) rfl)
      (ss_one (s_for PassesOwn.never rfl (i_range2 rfl (T.free "range" (by simp)) (a_cons q_int (a_cons q_int a_nil))) (g_name (i := 6) nd rfl (.inl rfl)) (ss_cons (s_par 7 8 rfl nd (a_cons (q_call G_waits (hr.mono (by decide)) rfl (a_cons (q_var 4) (a_cons (q_var 6) a_nil))) (a_cons (q_call G_longest (hr.mono (by decide)) rfl (a_cons (q_var 4) (a_cons (q_var 6) a_nil))) a_nil)) rfl)
      (ss_cons (s_if (t_ne (q_isN (q_var 7)) (q_isN (q_var 8))) (ss_one (s_ret q_bl)) ss_nil)
      (ss_cons (s_if (t_w (w_and (t_isN (q_var 5)) (w_and1 (t_notN (q_var 7))))) (ss_one (s_ret q_bl)) ss_nil)
      (ss_cons (s_if (t_w (w_and (t_notN (q_var 7)) (w_and (t_notN (q_var 5)) (w_and1 (t_lt (q_var 7) (q_var 5)))))) (ss_one (s_ret q_bl)) ss_nil)
      (ss_cons (s_if (t_w (w_and (t_lt (q_var 6) q_int) (w_and1 (t_ne (q_alt (q_cb SkE.call_repr_int sim_reprI rfl (T.free "repr" (by simp)) (by decide +kernel) (a_cons (q_var 7) a_nil)) (q_cb call_repr_none sim_reprN rfl (T.free "repr" (by simp)) (by decide +kernel) (a_cons (q_var 7) a_nil))) (q_alt (q_cb SkE.call_repr_int sim_reprI rfl (T.free "repr" (by simp)) (by decide +kernel) (a_cons (q_call G__law_waited (hr.mono (by decide)) rfl (a_cons (q_var 3) (a_cons (q_var 6) a_nil))) a_nil)) (q_cb call_repr_none sim_reprN rfl (T.free "repr" (by simp)) (by decide +kernel) (a_cons (q_call G__law_waited (hr.mono (by decide)) rfl (a_cons (q_var 3) (a_cons (q_var 6) a_nil))) a_nil))))))) (ss_one (s_ret q_bl)) ss_nil)
      (ss_cons (s_set 5 nd (q_var 7))
      (ss_cons (s_if (t_isN (q_var 8)) (ss_one s_cont) ss_nil)
      (ss_cons (s_asg (q_var 8) (g_tup rfl (gs_cons (g_name (i := 9) nd rfl (.inl rfl)) (gs_cons (g_name (i := 10) nd rfl (.inl rfl)) (gs_cons (g_name (i := 11) nd rfl (.inl rfl)) gs_nil)))))
      (ss_cons (s_if (t_gt (q_cb call_len_seq sim_len rfl (T.free "len" (by simp)) (by decide +kernel) (a_cons (q_op op_catA sim_catT (q_var 10) (q_var 11)) a_nil)) q_int) (ss_one s_cont) ss_nil)
      (ss_cons (s_set 12 nd (q_slT (q_fld (He.ga K "Played") ["grants", "done", "modes", "pointers", "faults"] 0 T.played.cl (T.played.na _ (by simp)) (q_call G_play (hr.mono (by decide)) rfl (a_cons (q_var 4) (a_cons (q_var 6) (a_cons (q_op op_catA sim_catT (q_var 10) (q_var 11)) a_nil))))) (o_some (q_cb call_len_seq sim_len rfl (T.free "len" (by simp)) (by decide +kernel) (a_cons (q_var 10) a_nil))) o_none))
      (ss_cons (s_if (t_w (w_or (t_ne (q_cb call_len_seq sim_len rfl (T.free "len" (by simp)) (by decide +kernel) (a_cons (q_var 11) a_nil)) (q_var 7)) (w_or1 (t_ne (q_call G__law_most_in_vain (hr.mono (by decide)) rfl (a_cons (q_var 12) (a_cons (q_var 11) (a_cons (q_var 9) a_nil)))) (q_var 7))))) (ss_one (s_ret q_bl)) ss_nil)
      (ss_cons (s_set 13 nd (q_call G__law_rounds (hr.mono (by decide)) rfl (a_cons (q_var 2) (a_cons (q_var 6) (a_cons q_int a_nil)))))
      (ss_one (s_for PassesOwn.never rfl (i_range1 rfl (T.free "range" (by simp)) (a_cons (q_var 6) a_nil)) (g_name (i := 14) nd rfl (.inl rfl)) (ss_one (s_if (t_gt (q_call G__law_most_in_vain (hr.mono (by decide)) rfl (a_cons (q_callO (He.ga K "Rule") (q_var 4) G_Rule___call__ (hr.mono (by decide)) (a_cons (q_var 6) (a_cons (q_var 13) a_nil))) (a_cons (q_var 13) (a_cons (q_var 14) a_nil)))) (q_var 7)) (ss_one (s_ret q_bl)) ss_nil))))))))))))))))))))))
      (ss_one (s_ret q_bl))), ?_⟩
  rintro _ μ Φ ⟨ns, rfl, hns, h⟩
  have hq : ∃ q : Nat, q ≤ 3 ∧ (if (if ((ns.map dI).length : Int) < 3 then ((ns.map dI).length : Int) else 3) > 2 then (if ((ns.map dI).length : Int) < 3 then ((ns.map dI).length : Int) else 3) else 2) = (q : Int) := by
    refine ⟨(if (if ((ns.map dI).length : Int) < 3 then ((ns.map dI).length : Int) else 3) > 2 then (if ((ns.map dI).length : Int) < 3 then ((ns.map dI).length : Int) else 3) else 2).toNat, ?_, ?_⟩
    · repeat' split
      all_goals omega
    · repeat' split
      all_goals omega
  obtain ⟨q, hq3, eq⟩ := hq
  (conv => whnf)
  rw [eq]
  (conv => whnf)
  refine ⟨⟨by omega, by omega⟩, fun i ρ μ' => (∀ x u, μ x = some u → μ' x = some u) ∧ ∃ d1 d2 d3 d4 d5 d6 d7 d8 d9 d10 d11 d12 d13 d14, ρ = [some (.lst (ns.map dI)), d1, d2, d3, d4, d5, d6, d7, d8, d9, d10, d11, d12, d13, d14],
    ⟨fun x u e => e, _, _, _, _, _, _, _, _, _, _, _, _, _, _, rfl⟩, ?_, ?_⟩
  · rintro i x ρ μ1 hx ⟨hold1, d1, d2, d3, d4, d5, d6, d7, d8, d9, d10, d11, d12, d13, d14, rfl⟩
    obtain ⟨hi, rfl⟩ := rng_get hx
    (conv => whnf)
    refine ⟨ns, i, rfl, hns, by omega, fun l a b hl => ?_⟩
    (conv => whnf)
    refine ⟨l, a, b, 8, rfl, mup_same, by decide, fun R a2 b2 hf hr hl8 => ?_⟩
    rw [mup_mup]
    have hnm : NmOk R := ⟨hf, hr⟩
    have ok : RowsOk R.rows := ⟨by omega, fun r hrm => ⟨(hr r hrm).2.1, (hr r hrm).2.2.1⟩⟩
    have hl0 := none_of_old hold1 hl
    (conv => whnf)
    refine ⟨R, rfl, hf, hr, by omega, fun md => ?_⟩
    (conv => whnf)
    refine ⟨⟨by decide, by decide, by decide, by decide⟩, fun j ρ μ2 => (∃ a b, μ2 l = some (boxO a b)) ∧ (∀ x u, μ x = some u → μ2 x = some u) ∧ ∃ oa, (j = 0 ∧ oa = some 0 ∨ WaitIs R j oa) ∧ ∃ d6 d7 d8 d9 d10 d11 d12 d13 d14, ρ = [some (.lst (ns.map dI)), some (dI (i : Int)), some (dR l), some (lruleD R), some (ruleD K R md), some (oI oa), d6, d7, d8, d9, d10, d11, d12, d13, d14],
      ⟨⟨a2, b2, mup_same⟩, fun x u e => by rw [mup_old hl0 e]; exact hold1 x u e, some 0, .inl ⟨rfl, rfl⟩, _, _, _, _, _, _, _, _, _, rfl⟩, ?_, ?_⟩
    · rintro j x ρ μ2 hx ⟨⟨a3, b3, hb3⟩, hold2, oa, hoa, d6, d7, d8, d9, d10, d11, d12, d13, d14, rfl⟩
      obtain ⟨hj, rfl⟩ : j < 6 ∧ x = dI ((j + 1 : Nat) : Int) := by
        have hj := (List.getElem?_eq_some_iff.mp hx).1
        rw [rngD_len] at hj
        have hj6 : j < 6 := hj
        rw [rngD_get hj] at hx
        cases hx
        exact ⟨hj6, congrArg dI (by omega)⟩
      (conv => whnf)
      refine ⟨R, md, j + 1, rfl, ok, by omega, by omega, tgt_cl ok, fun r1 hr1 => ?_⟩
      (conv => whnf)
      refine ⟨R, md, j + 1, rfl, ok, by omega, by omega, tgt_cl ok, fun r2 hr2 => ?_⟩
      obtain ⟨W1, _⟩ := long_is ok hr1
      obtain ⟨W2, X2⟩ := long_is ok hr2
      have eo := wait_uniq W1 W2
      cases r1 with
      | none =>
        cases r2 with
        | some q2 => cases eo
        | none =>
          have W1 : WaitIs R (j + 1) none := W1
          (conv => whnf)
          refine ⟨rfl, ?_⟩
          (refine ⟨fun z => ?_, fun z => ?_⟩ <;> (first | (exfalso; first | exact absurd z (by decide) | (simp at z; done) | (have z2 := of_decide_eq_true z; omega) | (have z2 := of_decide_eq_false z; omega)) | skip))
          cases oa
          all_goals
            (conv => whnf)
            (refine ⟨fun z => ?_, fun z => ?_⟩ <;> (first | (exfalso; first | exact absurd z (by decide) | (simp at z; done) | (have z2 := of_decide_eq_true z; omega) | (have z2 := of_decide_eq_false z; omega)) | skip))
            (conv => whnf)
            (refine ⟨fun z => ?_, fun z => ?_⟩ <;> (first | (exfalso; first | exact absurd z (by decide) | (simp at z; done) | (have z2 := of_decide_eq_true z; omega) | (have z2 := of_decide_eq_false z; omega)) | skip))
            (conv => whnf)
            (refine ⟨fun z => ?_, fun z => ?_⟩ <;> (first | (exfalso; first | exact absurd z (by decide) | (simp at z; done) | (have z2 := of_decide_eq_true z; omega) | (have z2 := of_decide_eq_false z; omega)) | skip))
            (conv => whnf)
            (refine ⟨fun z => ?_, fun z => ?_⟩ <;> (first | (exfalso; first | exact absurd z (by decide) | (simp at z; done) | (have z2 := of_decide_eq_true z; omega) | (have z2 := of_decide_eq_false z; omega)) | skip))
            (conv => whnf)
            refine ⟨fun hc => ?_, fun hc => ?_⟩
            · have hc := of_decide_eq_true hc
              (conv => whnf)
              refine Or.inr ?_
              (conv => whnf)
              refine Or.inr ?_
              (conv => whnf)
              refine ⟨R, j + 1, rfl, by omega, hnm, by omega, by omega, fun o ho => ?_⟩
              have ho := wait_uniq ho W1
              subst ho
              (conv => whnf)
              refine ⟨rfl, ?_⟩
              (refine ⟨fun z => ?_, fun z => ?_⟩ <;> (first | (exfalso; first | exact absurd z (by decide) | (simp at z; done) | (have z2 := of_decide_eq_true z; omega) | (have z2 := of_decide_eq_false z; omega)) | skip))
              (conv => whnf)
              (refine ⟨fun z => ?_, fun z => ?_⟩ <;> (first | (exfalso; first | exact absurd z (by decide) | (simp at z; done) | (have z2 := of_decide_eq_true z; omega) | (have z2 := of_decide_eq_false z; omega)) | skip))
              exact ⟨⟨a3, b3, hb3⟩, hold2, none, .inr W1, _, _, _, _, _, _, _, _, _, rfl⟩
            · (conv => whnf)
              (refine ⟨fun z => ?_, fun z => ?_⟩ <;> (first | (exfalso; first | exact absurd z (by decide) | (simp at z; done) | (have z2 := of_decide_eq_true z; omega) | (have z2 := of_decide_eq_false z; omega)) | skip))
              (conv => whnf)
              (refine ⟨fun z => ?_, fun z => ?_⟩ <;> (first | (exfalso; first | exact absurd z (by decide) | (simp at z; done) | (have z2 := of_decide_eq_true z; omega) | (have z2 := of_decide_eq_false z; omega)) | skip))
              exact ⟨⟨a3, b3, hb3⟩, hold2, none, .inr W1, _, _, _, _, _, _, _, _, _, rfl⟩
      | some q1 =>
        cases r2 with
        | none => cases eo
        | some q2 =>
          obtain ⟨a1', p1, As1⟩ := q1
          obtain ⟨a0, p, As⟩ := q2
          have W1 : WaitIs R (j + 1) (some As1.length) := W1
          have eM : As1.length = As.length := Option.some.inj eo
          have hl1 := (long_len (by omega) (by omega) hr1 a1' p1 As1 rfl).2
          obtain ⟨hpl, hAl⟩ := long_len (by omega) (by omega) hr2 a0 p As rfl
          obtain ⟨ha0, s0, t0, hsp, hseq⟩ := X2 a0 p As rfl
          have hlog := log_small hl1
          obtain ⟨O, rfl, hO⟩ : ∃ O : Nat, oa = some O ∧ O ≤ As1.length := by
            rcases hoa with ⟨_, rfl⟩ | hw
            · exact ⟨0, rfl, Nat.zero_le _⟩
            · cases oa with
              | none => exact nomatch (wait_none (Nat.le_succ j) hw W1)
              | some O => exact ⟨O, rfl, wait_le (Nat.le_succ j) hw W1⟩
          clear hr1 hr2 eo hoa
          have hAs := hseq.lt
          have hps := spath_lt hsp
          obtain ⟨PT, hPTd⟩ : ∃ PT : List (Bool × List Nat), PT = p.map (fun a => (true, [a])) ++ As.map (fun A => (true, A)) := ⟨_, rfl⟩
          have ePT : (p.map fun a => tupI [a]) ++ As.map tupI = PT.map RdD := by rw [hPTd, List.map_append, List.map_map, List.map_map] <;> rfl
          have ePT2 : PT.map (·.2) = p.map (fun a => [a]) ++ As := by
            rw [hPTd, List.map_append, List.map_map, List.map_map]
            exact congrArg (fun z => p.map (fun a => [a]) ++ z) (List.map_id As)
          have hPT : ∀ q ∈ PT, q.2.length < 64 ∧ q.2.Nodup ∧ ∀ x ∈ q.2, x < j + 1 := fun q hq => by
            rw [hPTd] at hq
            rcases List.mem_append.mp hq with z | z
            · obtain ⟨y, hy, rfl⟩ := List.mem_map.mp z
              exact ⟨by simp, by simp, fun x hx => by rw [List.mem_singleton.mp hx]; exact hps y hy⟩
            · obtain ⟨A, hA, rfl⟩ := List.mem_map.mp z
              obtain ⟨u1, u2⟩ := hAs A hA
              have und : A.Nodup := u1.imp fun h => Nat.ne_of_lt h
              have := nodup_le (m := List.range (j + 1)) und fun x hx => List.mem_range.mpr (u2 x hx)
              rw [List.length_range] at this
              exact ⟨by show A.length < 64; omega, und, u2⟩
          clear hPTd
          (conv => whnf)
          refine ⟨rfl, ?_⟩
          (refine ⟨fun z => ?_, fun z => ?_⟩ <;> (first | (exfalso; first | exact absurd z (by decide) | (simp at z; done) | (have z2 := of_decide_eq_true z; omega) | (have z2 := of_decide_eq_false z; omega)) | skip))
          (conv => whnf)
          (refine ⟨fun z => ?_, fun z => ?_⟩ <;> (first | (exfalso; first | exact absurd z (by decide) | (simp at z; done) | (have z2 := of_decide_eq_true z; omega) | (have z2 := of_decide_eq_false z; omega)) | skip))
          (conv => whnf)
          (refine ⟨fun z => ?_, fun z => ?_⟩ <;> (first | (exfalso; first | exact absurd z (by decide) | (simp at z; done) | (have z2 := of_decide_eq_true z; omega) | (have z2 := of_decide_eq_false z; omega)) | skip))
          (conv => whnf)
          (refine ⟨fun z => ?_, fun z => ?_⟩ <;> (first | (exfalso; first | exact absurd z (by decide) | (simp at z; done) | (have z2 := of_decide_eq_true z; omega) | (have z2 := of_decide_eq_false z; omega)) | skip))
          (conv => whnf)
          (refine ⟨fun z => ?_, fun z => ?_⟩ <;> (first | (exfalso; first | exact absurd z (by decide) | (simp at z; done) | (have z2 := of_decide_eq_true z; omega) | (have z2 := of_decide_eq_false z; omega)) | skip))
          (conv => whnf)
          (refine ⟨fun z => ?_, fun z => ?_⟩ <;> (first | (exfalso; first | exact absurd z (by decide) | (simp at z; done) | (have z2 := of_decide_eq_true z; omega) | (have z2 := of_decide_eq_false z; omega)) | skip))
          (conv => whnf)
          refine ⟨fun hc => ?_, fun hc => ?_⟩
          · have hc := of_decide_eq_true hc
            (conv => whnf)
            refine Or.inl ?_
            (conv => whnf)
            refine ⟨hlog, ?_⟩
            (conv => whnf)
            refine Or.inl ?_
            (conv => whnf)
            refine ⟨R, j + 1, rfl, by omega, hnm, by omega, by omega, fun o ho => ?_⟩
            have ho := wait_uniq ho W1
            subst ho
            (conv => whnf)
            refine ⟨hlog, ?_⟩
            (conv => whnf)
            refine ⟨rfl, ?_⟩
            (refine ⟨fun z => ?_, fun z => ?_⟩ <;> (first | (exfalso; first | exact absurd z (by decide) | (simp at z; done) | (have z2 := of_decide_eq_true z; omega) | (have z2 := of_decide_eq_false z; omega)) | skip))
            (conv => whnf)
            (refine ⟨fun z => ?_, fun z => ?_⟩ <;> (first | (exfalso; first | exact absurd z (by decide) | (simp at z; done) | (have z2 := of_decide_eq_true z; omega) | (have z2 := of_decide_eq_false z; omega)) | skip))
            (conv => whnf)
            refine lenOk.mk (by rw [List.length_map, List.length_map]; omega) ?_
            (conv => whnf)
            rw [ePT]
            refine ⟨fun hc3 => ?_, fun hc3 => ?_⟩
            · exact ⟨⟨a3, b3, hb3⟩, hold2, some As1.length, .inr W1, _, _, _, _, _, _, _, _, _, rfl⟩
            · have hc3 : ¬ (40 : Int) < ((PT.map RdD).length : Int) := of_decide_eq_false hc3
              have hPl : PT.length ≤ 40 := by rw [List.length_map] at hc3; omega
              have hAsk : AskOk (j + 1) PT := ⟨by omega, hPT⟩
              (conv => whnf)
              refine lenOk.mk (by rw [List.length_map, List.length_map]; omega) ?_
              rw [ePT]
              (conv => whnf)
              refine ⟨R, md, j + 1, true, PT, rfl, hAsk, by omega, fun gss s' x1 x2 x3 x4 hrun => ?_⟩
              have hrf := run_f hrun
              rw [ePT2] at hrf
              obtain ⟨u, gs1, gs2, eg, hg1, hr1, hr2⟩ := hrf.app
              have hu : u = s0 := by rw [spath_end hsp]; exact hr1.single
              subst hu
              have hmiv := miv_seq (h := 0) hseq hr2
              have hgl := hr2.len
              rw [List.length_map] at hg1
              have ecut : cutD (gss.map tupI) (some ((p.map fun a => tupI [a]).length : Int)) none = gs2.map tupI := by
                rw [eg, List.map_append]
                have := cut_app (xs := gs1.map tupI) (ys := gs2.map tupI)
                rw [List.length_map] at this ⊢
                rw [← hg1]; exact this
              (conv => whnf)
              refine ⟨rfl, rfl, ?_⟩
              (conv => whnf)
              rw [ecut]
              (conv => whnf)
              refine ⟨rfl, ?_⟩
              have eML : ((As.map tupI).length : Int) = (As1.length : Int) := by rw [List.length_map, eM]
              rw [eML]
              (refine ⟨fun z => ?_, fun z => ?_⟩ <;> (first | (exfalso; first | exact absurd z (by decide) | (simp at z; done) | (have z2 := of_decide_eq_true z; omega) | (have z2 := of_decide_eq_false z; omega)) | skip))
              (conv => whnf)
              refine ⟨gs2, true, As.map (fun A => (true, A)), a0, by rw [List.map_map] <;> rfl, by rw [List.length_map]; exact hgl, ?_⟩
              rw [show (As.map (fun A => ((true : Bool), A))).map (·.2) = As from by rw [List.map_map]; exact List.map_id As, hmiv]
              have e0 : (((0 + As.length, 0 + As.length) : Nat × Nat).1 : Int) = (As1.length : Int) := by show ((0 + As.length : Nat) : Int) = _; omega
              rw [e0]
              (conv => whnf)
              refine ⟨rfl, ?_⟩
              (refine ⟨fun z => ?_, fun z => ?_⟩ <;> (first | (exfalso; first | exact absurd z (by decide) | (simp at z; done) | (have z2 := of_decide_eq_true z; omega) | (have z2 := of_decide_eq_false z; omega)) | skip))
              (conv => whnf)
              refine ⟨l, a3, b3, j + 1, 30, rfl, hb3, by omega, by omega, by decide, fun As3 a4 b4 hAsk3 hl30 => ?_⟩
              (conv => whnf)
              refine ⟨⟨by omega, by omega⟩, fun i2 ρ μ3 => μ3 = mup μ2 l (boxO a4 b4) ∧ ∃ d14, ρ = [some (.lst (ns.map dI)), some (dI (i : Int)), some (dR l), some (lruleD R), some (ruleD K R md), some (dI (As1.length : Int)), some (dI ((j + 1 : Nat) : Int)), some (dI (As1.length : Int)), some (bestD (some (a0, p, As))), some (dI (a0 : Int)), some (pthD p), some (.tup (As.map tupI)), some (.tup (gs2.map tupI)), some (.lst (As3.map RdD)), d14],
                ⟨rfl, _, rfl⟩, ?_, ?_⟩
              · rintro i2 x ρ μ3 hx ⟨rfl, d14, rfl⟩
                obtain ⟨hi2, rfl⟩ := rng_get hx
                (conv => whnf)
                refine ⟨rfl, ?_⟩
                (conv => whnf)
                refine ⟨R, md, j + 1, false, As3, rfl, hAsk3, by omega, fun gss3 s3 hrun3 => ?_⟩
                have hrf3 := run_f hrun3
                have hmle := miv_le (a := i2) hi2 W1 hrf3 rch_start (Nat.zero_le _) rch_start .nil
                (conv => whnf)
                refine ⟨gss3, false, As3, i2, rfl, by rw [hrf3.len, List.length_map], ?_⟩
                (conv => whnf)
                refine ⟨fun z => absurd (of_decide_eq_true z) (by omega), fun _ => ?_⟩
                exact ⟨rfl, _, rfl⟩
              · rintro ρ μ3 ⟨rfl, d14, rfl⟩
                refine ⟨⟨a4, b4, mup_same⟩, fun x u e => ?_, some As1.length, .inr W1, _, _, _, _, _, _, _, _, _, rfl⟩
                rw [mup_old hl0 e]; exact hold2 x u e
          · (conv => whnf)
            (refine ⟨fun z => ?_, fun z => ?_⟩ <;> (first | (exfalso; first | exact absurd z (by decide) | (simp at z; done) | (have z2 := of_decide_eq_true z; omega) | (have z2 := of_decide_eq_false z; omega)) | skip))
            (conv => whnf)
            (refine ⟨fun z => ?_, fun z => ?_⟩ <;> (first | (exfalso; first | exact absurd z (by decide) | (simp at z; done) | (have z2 := of_decide_eq_true z; omega) | (have z2 := of_decide_eq_false z; omega)) | skip))
            (conv => whnf)
            refine lenOk.mk (by rw [List.length_map, List.length_map]; omega) ?_
            (conv => whnf)
            rw [ePT]
            refine ⟨fun hc3 => ?_, fun hc3 => ?_⟩
            · exact ⟨⟨a3, b3, hb3⟩, hold2, some As1.length, .inr W1, _, _, _, _, _, _, _, _, _, rfl⟩
            · have hc3 : ¬ (40 : Int) < ((PT.map RdD).length : Int) := of_decide_eq_false hc3
              have hPl : PT.length ≤ 40 := by rw [List.length_map] at hc3; omega
              have hAsk : AskOk (j + 1) PT := ⟨by omega, hPT⟩
              (conv => whnf)
              refine lenOk.mk (by rw [List.length_map, List.length_map]; omega) ?_
              rw [ePT]
              (conv => whnf)
              refine ⟨R, md, j + 1, true, PT, rfl, hAsk, by omega, fun gss s' x1 x2 x3 x4 hrun => ?_⟩
              have hrf := run_f hrun
              rw [ePT2] at hrf
              obtain ⟨u, gs1, gs2, eg, hg1, hr1, hr2⟩ := hrf.app
              have hu : u = s0 := by rw [spath_end hsp]; exact hr1.single
              subst hu
              have hmiv := miv_seq (h := 0) hseq hr2
              have hgl := hr2.len
              rw [List.length_map] at hg1
              have ecut : cutD (gss.map tupI) (some ((p.map fun a => tupI [a]).length : Int)) none = gs2.map tupI := by
                rw [eg, List.map_append]
                have := cut_app (xs := gs1.map tupI) (ys := gs2.map tupI)
                rw [List.length_map] at this ⊢
                rw [← hg1]; exact this
              (conv => whnf)
              refine ⟨rfl, rfl, ?_⟩
              (conv => whnf)
              rw [ecut]
              (conv => whnf)
              refine ⟨rfl, ?_⟩
              have eML : ((As.map tupI).length : Int) = (As1.length : Int) := by rw [List.length_map, eM]
              rw [eML]
              (refine ⟨fun z => ?_, fun z => ?_⟩ <;> (first | (exfalso; first | exact absurd z (by decide) | (simp at z; done) | (have z2 := of_decide_eq_true z; omega) | (have z2 := of_decide_eq_false z; omega)) | skip))
              (conv => whnf)
              refine ⟨gs2, true, As.map (fun A => (true, A)), a0, by rw [List.map_map] <;> rfl, by rw [List.length_map]; exact hgl, ?_⟩
              rw [show (As.map (fun A => ((true : Bool), A))).map (·.2) = As from by rw [List.map_map]; exact List.map_id As, hmiv]
              have e0 : (((0 + As.length, 0 + As.length) : Nat × Nat).1 : Int) = (As1.length : Int) := by show ((0 + As.length : Nat) : Int) = _; omega
              rw [e0]
              (conv => whnf)
              refine ⟨rfl, ?_⟩
              (refine ⟨fun z => ?_, fun z => ?_⟩ <;> (first | (exfalso; first | exact absurd z (by decide) | (simp at z; done) | (have z2 := of_decide_eq_true z; omega) | (have z2 := of_decide_eq_false z; omega)) | skip))
              (conv => whnf)
              refine ⟨l, a3, b3, j + 1, 30, rfl, hb3, by omega, by omega, by decide, fun As3 a4 b4 hAsk3 hl30 => ?_⟩
              (conv => whnf)
              refine ⟨⟨by omega, by omega⟩, fun i2 ρ μ3 => μ3 = mup μ2 l (boxO a4 b4) ∧ ∃ d14, ρ = [some (.lst (ns.map dI)), some (dI (i : Int)), some (dR l), some (lruleD R), some (ruleD K R md), some (dI (As1.length : Int)), some (dI ((j + 1 : Nat) : Int)), some (dI (As1.length : Int)), some (bestD (some (a0, p, As))), some (dI (a0 : Int)), some (pthD p), some (.tup (As.map tupI)), some (.tup (gs2.map tupI)), some (.lst (As3.map RdD)), d14],
                ⟨rfl, _, rfl⟩, ?_, ?_⟩
              · rintro i2 x ρ μ3 hx ⟨rfl, d14, rfl⟩
                obtain ⟨hi2, rfl⟩ := rng_get hx
                (conv => whnf)
                refine ⟨rfl, ?_⟩
                (conv => whnf)
                refine ⟨R, md, j + 1, false, As3, rfl, hAsk3, by omega, fun gss3 s3 hrun3 => ?_⟩
                have hrf3 := run_f hrun3
                have hmle := miv_le (a := i2) hi2 W1 hrf3 rch_start (Nat.zero_le _) rch_start .nil
                (conv => whnf)
                refine ⟨gss3, false, As3, i2, rfl, by rw [hrf3.len, List.length_map], ?_⟩
                (conv => whnf)
                refine ⟨fun z => absurd (of_decide_eq_true z) (by omega), fun _ => ?_⟩
                exact ⟨rfl, _, rfl⟩
              · rintro ρ μ3 ⟨rfl, d14, rfl⟩
                refine ⟨⟨a4, b4, mup_same⟩, fun x u e => ?_, some As1.length, .inr W1, _, _, _, _, _, _, _, _, _, rfl⟩
                rw [mup_old hl0 e]; exact hold2 x u e
    · rintro ρ μ2 ⟨_, hold2, oa, hoa, e6, e7, e8, e9, e10, e11, e12, e13, e14, rfl⟩
      exact ⟨hold2, _, _, _, _, _, _, _, _, _, _, _, _, _, _, rfl⟩
  · rintro ρ μ1 ⟨hold1, d1, d2, d3, d4, d5, d6, d7, d8, d9, d10, d11, d12, d13, d14, rfl⟩
    (conv => whnf)
    exact ⟨μ, hold1, h⟩
end
end K3
set_option Elab.async false
set_option linter.all false
set_option maxRecDepth 100000
set_option maxHeartbeats 1600000
set_option pp.maxSteps 600
/-! KN: each def's promise, from what stands behind the top. -/
namespace K3
open PySem PySem.Spec PyProof.Rows L2
theorem saysX_A {w : World} {K : PySem.W.Frag} (c : SaysX w K) : He5.SaysA faK defsK K := congrArg (fun z : AlX => z.2.1) c
theorem saysX_ex {w : World} {K : PySem.W.Frag} (c : SaysX w K) : exB K = true := congrArg (fun z : AlX => z.1) c
theorem saysX_dic {w : World} {K : PySem.W.Frag} (c : SaysX w K) : He.dicW K (He.ga K "PARTS") = some (He.keysIn w.params keysP) := congrArg (fun z : AlX => z.2.2) c
/-- what the head tells -/
structure HX (w : World) (K : PySem.W.Frag) (mg : Str → Option Value) : Prop where
  T : TF w K mg
  A : He5.SaysA faK defsK K
  gl : ∀ (i : Nat) (x : Str), faK[i]? = some (.glo x) → mg x = some (.ref (He.ga K x))
  eqF : PySem.W.findIn K (.ref (He.ga K "Row")) "__eq__" = some (some (.ref (He.ma K (He.ga K "Row") "__eq__"))) ∧ PySem.W.isFn K (.ref (He.ma K (He.ga K "Row") "__eq__")) = true
  call : StX.CallO K (He.ga K "Rule") (He.ma K (He.ga K "Rule") "__call__")
  cread : ClX.CRead K (He.ga K "Rule") (.type "type")
  cmet : ClX.CMet K (He.ga K "Rule") (.type "type") "read" (He.ma K (He.ga K "Rule") "read") (He5.wf K (He.ga K "Rule") "classmethod" "read")
theorem kt_of {K : PySem.W.Frag} {a : Addr} {ts : List Str} (h : ktB K a ts = true) : kt K a = some ts := of_decide_eq_true h
theorem part_of {w : World} {K : PySem.W.Frag} {z : Str} {ts : List Str} (D : ∃ es n, KDict K w (He.ga K "PARTS") es n) (h : partB K z ts = true) : KDct K w (He.ga K "PARTS") z (.ref (pa K z)) ∧ kt K (pa K z) = some ts := by
  obtain ⟨h1, h2⟩ := He.ba h
  obtain ⟨es, n, D⟩ := D
  exact ⟨⟨es, n, _, D.at_, D.lit, of_decide_eq_true h1, rfl⟩, kt_of h2⟩
theorem parts4 {z : Str} {ts : List Str} (h : partsOf z = some ts) : (z = "home" ∧ ts = (["under", "w", "past"] : List Str)) ∨ (z = "low" ∧ ts = (["under", "point", "between", "w", "past"] : List Str)) ∨ (z = "here" ∧ ts = (["under", "w", "past"] : List Str)) ∨ (z = "high" ∧ ts = (["under", "w", "between", "point", "past"] : List Str)) := by
  unfold partsOf at h
  split at h
  · rename_i e; cases h; exact .inl ⟨e, rfl⟩
  · split at h
    · rename_i e; cases h; exact .inr (.inl ⟨e, rfl⟩)
    · split at h
      · rename_i e; cases h; exact .inr (.inr (.inl ⟨e, rfl⟩))
      · split at h
        · rename_i e; cases h; exact .inr (.inr (.inr ⟨e, rfl⟩))
        · cases h
theorem hx_of {w : World} {K : PySem.W.Frag} {h : Heap} {mg : Str → Option Value} (X : K.In h) (G : h.Ns mainGlobals mg) (c : SaysX w K) : HX w K mg := by
  have A := saysX_A c
  have gl : ∀ (i : Nat) (x : Str), faK[i]? = some (.glo x) → mg x = some (.ref (He.ga K x)) := fun i x e => He.glo_ok X G (A.fact i e)
  have D := He.dicW_ok (saysX_dic c)
  obtain ⟨x123, x4⟩ := He.ba (saysX_ex c)
  obtain ⟨x12, x3⟩ := He.ba x123
  obtain ⟨x1, x2⟩ := He.ba x12
  obtain ⟨a1, a23⟩ := He.ba x1
  obtain ⟨a2, a3⟩ := He.ba a23
  obtain ⟨b12, b34⟩ := He.ba x2
  obtain ⟨b1, b2⟩ := He.ba b12
  obtain ⟨b3, b4⟩ := He.ba b34
  obtain ⟨c123, c4567⟩ := He.ba x3
  obtain ⟨c1, c23⟩ := He.ba c123
  obtain ⟨c2, c3⟩ := He.ba c23
  obtain ⟨c4, c567⟩ := He.ba c4567
  obtain ⟨c5, c67⟩ := He.ba c567
  obtain ⟨c6, c7⟩ := He.ba c67
  obtain ⟨d12, d3456⟩ := He.ba x4
  obtain ⟨d1, d2⟩ := He.ba d12
  obtain ⟨e123, f1234⟩ := He.ba d3456
  obtain ⟨e1, e23⟩ := He.ba e123
  obtain ⟨e2, e3⟩ := He.ba e23
  obtain ⟨f12, f34⟩ := He.ba f1234
  obtain ⟨f1, f2⟩ := He.ba f12
  obtain ⟨f3, f4⟩ := He.ba f34
  have p1 := part_of D b1
  have p2 := part_of D b2
  have p3 := part_of D b3
  have p4 := part_of D b4
  have k_played : ClsF K mg "Played" ["grants", "done", "modes", "pointers", "faults"] := by
    refine ⟨gl 66 "Played" rfl, He.cls_ok (A.fact 80 (f := .cls "Played") rfl), fun f hf => ?_, He.mkr_ok (A.fact 81 (f := .mkr "Played") rfl)⟩
    simp only [List.mem_cons, List.not_mem_nil, or_false] at hf
    rcases hf with rfl | rfl | rfl | rfl | rfl
    · exact He.noat_ok (A.fact 82 (f := .noat "Played" "grants") rfl)
    · exact He.noat_ok (A.fact 83 (f := .noat "Played" "done") rfl)
    · exact He.noat_ok (A.fact 84 (f := .noat "Played" "modes") rfl)
    · exact He.noat_ok (A.fact 85 (f := .noat "Played" "pointers") rfl)
    · exact He.noat_ok (A.fact 86 (f := .noat "Played" "faults") rfl)
  have k_beside : ClsF K mg "Beside" ["rule", "askers", "asker", "known"] := by
    refine ⟨gl 67 "Beside" rfl, He.cls_ok (A.fact 87 (f := .cls "Beside") rfl), fun f hf => ?_, He.mkr_ok (A.fact 88 (f := .mkr "Beside") rfl)⟩
    simp only [List.mem_cons, List.not_mem_nil, or_false] at hf
    rcases hf with rfl | rfl | rfl | rfl
    · exact He.noat_ok (A.fact 89 (f := .noat "Beside" "rule") rfl)
    · exact He.noat_ok (A.fact 90 (f := .noat "Beside" "askers") rfl)
    · exact He.noat_ok (A.fact 91 (f := .noat "Beside" "asker") rfl)
    · exact He.noat_ok (A.fact 92 (f := .noat "Beside" "known") rfl)
  have k_wait : ClsF K mg "Wait" ["beside", "ways", "lengths"] := by
    refine ⟨gl 68 "Wait" rfl, He.cls_ok (A.fact 93 (f := .cls "Wait") rfl), fun f hf => ?_, He.mkr_ok (A.fact 94 (f := .mkr "Wait") rfl)⟩
    simp only [List.mem_cons, List.not_mem_nil, or_false] at hf
    rcases hf with rfl | rfl | rfl
    · exact He.noat_ok (A.fact 95 (f := .noat "Wait" "beside") rfl)
    · exact He.noat_ok (A.fact 96 (f := .noat "Wait" "ways") rfl)
    · exact He.noat_ok (A.fact 97 (f := .noat "Wait" "lengths") rfl)
  have k_row : ClsF K mg "Row" ["mode", "pick", "move", "then", "also"] := by
    refine ⟨gl 69 "Row" rfl, He.cls_ok (A.fact 98 (f := .cls "Row") rfl), fun f hf => ?_, He.mkr_ok (A.fact 99 (f := .mkr "Row") rfl)⟩
    simp only [List.mem_cons, List.not_mem_nil, or_false] at hf
    rcases hf with rfl | rfl | rfl | rfl | rfl
    · exact He.noat_ok (A.fact 100 (f := .noat "Row" "mode") rfl)
    · exact He.noat_ok (A.fact 101 (f := .noat "Row" "pick") rfl)
    · exact He.noat_ok (A.fact 102 (f := .noat "Row" "move") rfl)
    · exact He.noat_ok (A.fact 103 (f := .noat "Row" "then") rfl)
    · exact He.noat_ok (A.fact 104 (f := .noat "Row" "also") rfl)
  have k_rule : ClsF K mg "Rule" ["first", "rows", "modes"] := by
    refine ⟨gl 70 "Rule" rfl, He.cls_ok (A.fact 105 (f := .cls "Rule") rfl), fun f hf => ?_, He.mkr_ok (A.fact 106 (f := .mkr "Rule") rfl)⟩
    simp only [List.mem_cons, List.not_mem_nil, or_false] at hf
    rcases hf with rfl | rfl | rfl
    · exact He.noat_ok (A.fact 107 (f := .noat "Rule" "first") rfl)
    · exact He.noat_ok (A.fact 108 (f := .noat "Rule" "rows") rfl)
    · exact He.noat_ok (A.fact 109 (f := .noat "Rule" "modes") rfl)
  have free : ∀ x ∈ (["len", "isinstance", "int", "bool", "str", "list", "tuple", "set", "sorted", "all", "any", "range", "enumerate", "zip", "max", "min", "abs", "repr", "dict"] : List Str), mg x = none := fun x hx => by
    simp only [List.mem_cons, List.not_mem_nil, or_false] at hx
    rcases hx with rfl | rfl | rfl | rfl | rfl | rfl | rfl | rfl | rfl | rfl | rfl | rfl | rfl | rfl | rfl | rfl | rfl | rfl | rfl
    · exact He.free_ok X G (A.fact 0 (f := .free "len") rfl)
    · exact He.free_ok X G (A.fact 1 (f := .free "isinstance") rfl)
    · exact He.free_ok X G (A.fact 2 (f := .free "int") rfl)
    · exact He.free_ok X G (A.fact 3 (f := .free "bool") rfl)
    · exact He.free_ok X G (A.fact 4 (f := .free "str") rfl)
    · exact He.free_ok X G (A.fact 5 (f := .free "list") rfl)
    · exact He.free_ok X G (A.fact 6 (f := .free "tuple") rfl)
    · exact He.free_ok X G (A.fact 7 (f := .free "set") rfl)
    · exact He.free_ok X G (A.fact 8 (f := .free "sorted") rfl)
    · exact He.free_ok X G (A.fact 9 (f := .free "all") rfl)
    · exact He.free_ok X G (A.fact 10 (f := .free "any") rfl)
    · exact He.free_ok X G (A.fact 11 (f := .free "range") rfl)
    · exact He.free_ok X G (A.fact 12 (f := .free "enumerate") rfl)
    · exact He.free_ok X G (A.fact 13 (f := .free "zip") rfl)
    · exact He.free_ok X G (A.fact 14 (f := .free "max") rfl)
    · exact He.free_ok X G (A.fact 15 (f := .free "min") rfl)
    · exact He.free_ok X G (A.fact 16 (f := .free "abs") rfl)
    · exact He.free_ok X G (A.fact 17 (f := .free "repr") rfl)
    · exact He.free_ok X G (A.fact 18 (f := .free "dict") rfl)
  refine ⟨⟨free, He.str_ok X G (A.fact 76 (f := .str "ME" "w") rfl), He.str_ok X G (A.fact 77 (f := .str "LETTERS" "abcdefghijklmnopqrstuvwxyz") rfl), He.int_ok X G (A.fact 78 (f := .int "MOST_LETTERS" 4) rfl), He.int_ok X G (A.fact 79 (f := .int "SHORT" 4) rfl),
    gl 72 "PICKS" rfl, kt_of a1, gl 73 "MOVES" rfl, kt_of a2, gl 74 "BARRED" rfl, kt_of a3, gl 75 "PARTS" rfl, fun z ts e => ?_, fun z ts e => ?_, gl 71 "InvalidRow" rfl, k_played, k_beside, k_wait, k_row, k_rule, ⟨k_row.cl, He.eqO_ok c1, He.eqO_ok c2, of_decide_eq_true c3, of_decide_eq_true c4, of_decide_eq_true c5⟩, of_decide_eq_true c6, c7⟩, A, gl, ⟨He.eqO_ok d1, d2⟩, ⟨He.eqO_ok e1, e2, e3⟩, ⟨f1, He.eqO_ok f2⟩, He5.cmet_of f3 f4⟩
  · rcases parts4 e with ⟨rfl, rfl⟩ | ⟨rfl, rfl⟩ | ⟨rfl, rfl⟩ | ⟨rfl, rfl⟩
    · exact p1.1
    · exact p2.1
    · exact p3.1
    · exact p4.1
  · rcases parts4 e with ⟨rfl, rfl⟩ | ⟨rfl, rfl⟩ | ⟨rfl, rfl⟩ | ⟨rfl, rfl⟩
    · exact p1.2
    · exact p2.2
    · exact p3.2
    · exact p4.2
section
variable {P : Program} {w : World} {K : PySem.W.Frag} {mg : Str → Option Value} {base : Heap}
theorem o_some_of (X : HX w K mg) : FnG P w K mg base "some_of" ["things"] 1 S_some_of := G_some_of X.T (X.A.def_ 0 (d := ⟨fun K => He.ga K "some_of", "some_of", "some_of", defArgs (top 4), defBody (top 4), defScope (top 4), [], []⟩) rfl) (X.gl 19 "some_of" rfl) 
theorem o_region_parts (X : HX w K mg) : FnG P w K mg base "region_parts" ["pick", "side"] 1 S_region_parts := G_region_parts X.T (X.A.def_ 1 (d := ⟨fun K => He.ga K "region_parts", "region_parts", "region_parts", defArgs (top 5), defBody (top 5), defScope (top 5), [], []⟩) rfl) (X.gl 20 "region_parts" rfl) 
theorem o_step_led (X : HX w K mg) : FnG P w K mg base "step_led" ["side", "move", "part"] 1 S_step_led := G_step_led X.T (X.A.def_ 5 (d := ⟨fun K => He.ga K "step_led", "step_led", "step_led", defArgs (top 9), defBody (top 9), defScope (top 9), [], []⟩) rfl) (X.gl 24 "step_led" rfl) 
theorem o_is_integer (X : HX w K mg) : FnG P w K mg base "is_integer" ["value"] 1 S_is_integer := G_is_integer X.T (X.A.def_ 7 (d := ⟨fun K => He.ga K "is_integer", "is_integer", "is_integer", defArgs (top 24), defBody (top 24), defScope (top 24), [], []⟩) rfl) (X.gl 26 "is_integer" rfl) 
theorem o_is_word (X : HX w K mg) : FnG P w K mg base "is_word" ["value", "words"] 1 S_is_word := G_is_word X.T (X.A.def_ 8 (d := ⟨fun K => He.ga K "is_word", "is_word", "is_word", defArgs (top 25), defBody (top 25), defScope (top 25), [], []⟩) rfl) (X.gl 27 "is_word" rfl) 
theorem o_is_name (X : HX w K mg) : FnG P w K mg base "is_name" ["value"] 1 S_is_name := G_is_name X.T (X.A.def_ 9 (d := ⟨fun K => He.ga K "is_name", "is_name", "is_name", defArgs (top 26), defBody (top 26), defScope (top 26), [], []⟩) rfl) (X.gl 28 "is_name" rfl) 
theorem o_is_sequence (X : HX w K mg) : FnG P w K mg base "is_sequence" ["value"] 1 S_is_sequence := G_is_sequence X.T (X.A.def_ 10 (d := ⟨fun K => He.ga K "is_sequence", "is_sequence", "is_sequence", defArgs (top 27), defBody (top 27), defScope (top 27), [], []⟩) rfl) (X.gl 29 "is_sequence" rfl) 
theorem o_region_of (X : HX w K mg) : FnG P w K mg base "region_of" ["pick", "pointer", "askers"] 1 S_region_of := G_region_of X.T (X.A.def_ 11 (d := ⟨fun K => He.ga K "region_of", "region_of", "region_of", defArgs (top 29), defBody (top 29), defScope (top 29), [], []⟩) rfl) (X.gl 30 "region_of" rfl) 
theorem o_pointer_behind (X : HX w K mg) : FnG P w K mg base "pointer_behind" ["row", "pointer", "granted"] 1 (S_pointer_behind K) := G_pointer_behind X.T (X.A.def_ 13 (d := ⟨fun K => He.ga K "pointer_behind", "pointer_behind", "pointer_behind", defArgs (top 31), defBody (top 31), defScope (top 31), [], []⟩) rfl) (X.gl 32 "pointer_behind" rfl) 
theorem o_ascending (X : HX w K mg) : FnG P w K mg base "ascending" ["asking"] 1 S_ascending := G_ascending X.T (X.A.def_ 16 (d := ⟨fun K => He.ga K "ascending", "ascending", "ascending", defArgs (top 34), defBody (top 34), defScope (top 34), [], []⟩) rfl) (X.gl 35 "ascending" rfl) 
theorem o_Played___init__ (X : HX w K mg) : MakeG P w K mg base (He.ga K "Played") ["self", "first"] 1 (S_Played K) := makeG_of (X.A.def_ 18 (d := ⟨fun K => He.ma K (He.ga K "Played") "__init__", "__init__", "Played.__init__", defArgs (inClass (top 36) 0), defBody (inClass (top 36) 0), defScope (inClass (top 36) 0), [], []⟩) rfl) X.T.played.mkr sc_Played___init__ (fun _ _ _ _ _ _ us hl => match us, hl with | [_, _], _ => rfl) (by (intro ds μ Φ h; first | (obtain ⟨_, rfl, _⟩ := h; rfl) | (obtain ⟨_, _, rfl, _⟩ := h; rfl) | (obtain ⟨_, _, _, rfl, _⟩ := h; rfl) | (obtain ⟨_, _, _, _, rfl, _⟩ := h; rfl) | (obtain ⟨_, _, _, _, _, rfl, _⟩ := h; rfl) | (obtain ⟨_, _, _, _, _, _, rfl, _⟩ := h; rfl) | (obtain ⟨_, _, _, _, _, _, _, rfl, _⟩ := h; rfl) | (obtain ⟨_, _, _, _, _, _, _, _, rfl, _⟩ := h; rfl) | (obtain ⟨_, _, _, _, _, _, _, _, _, rfl, _⟩ := h; rfl) | (obtain ⟨_, _, _, _, _, _, _, _, _, _, rfl, _⟩ := h; rfl) | (obtain ⟨_, _, _, _, _, _, _, _, _, _, _, rfl, _⟩ := h; rfl) | (obtain ⟨_, _, _, _, _, _, _, _, _, _, _, _, rfl, _⟩ := h; rfl))) (B_Played___init__ X.T )
theorem o_faults_in (X : HX w K mg) : FnG P w K mg base "faults_in" ["asking", "grants"] 1 S_faults_in := G_faults_in X.T (X.A.def_ 19 (d := ⟨fun K => He.ga K "faults_in", "faults_in", "faults_in", defArgs (top 37), defBody (top 37), defScope (top 37), [], []⟩) rfl) (X.gl 37 "faults_in" rfl) 
theorem o_side_of (X : HX w K mg) : FnG P w K mg base "side_of" ["asker", "pointer"] 1 S_side_of := G_side_of X.T (X.A.def_ 21 (d := ⟨fun K => He.ga K "side_of", "side_of", "side_of", defArgs (top 40), defBody (top 40), defScope (top 40), [], []⟩) rfl) (X.gl 39 "side_of" rfl) 
theorem o_Beside___init__ (X : HX w K mg) : MakeG P w K mg base (He.ga K "Beside") ["self", "rule", "askers", "asker"] 1 (S_Beside K) := makeG_of (X.A.def_ 23 (d := ⟨fun K => He.ma K (He.ga K "Beside") "__init__", "__init__", "Beside.__init__", defArgs (inClass (top 42) 0), defBody (inClass (top 42) 0), defScope (inClass (top 42) 0), [], []⟩) rfl) X.T.beside.mkr sc_Beside___init__ (fun _ _ _ _ _ _ us hl => match us, hl with | [_, _, _, _], _ => rfl) (by (intro ds μ Φ h; first | (obtain ⟨_, rfl, _⟩ := h; rfl) | (obtain ⟨_, _, rfl, _⟩ := h; rfl) | (obtain ⟨_, _, _, rfl, _⟩ := h; rfl) | (obtain ⟨_, _, _, _, rfl, _⟩ := h; rfl) | (obtain ⟨_, _, _, _, _, rfl, _⟩ := h; rfl) | (obtain ⟨_, _, _, _, _, _, rfl, _⟩ := h; rfl) | (obtain ⟨_, _, _, _, _, _, _, rfl, _⟩ := h; rfl) | (obtain ⟨_, _, _, _, _, _, _, _, rfl, _⟩ := h; rfl) | (obtain ⟨_, _, _, _, _, _, _, _, _, rfl, _⟩ := h; rfl) | (obtain ⟨_, _, _, _, _, _, _, _, _, _, rfl, _⟩ := h; rfl) | (obtain ⟨_, _, _, _, _, _, _, _, _, _, _, rfl, _⟩ := h; rfl) | (obtain ⟨_, _, _, _, _, _, _, _, _, _, _, _, rfl, _⟩ := h; rfl))) (B_Beside___init__ X.T )
theorem o_Wait_fill (X : HX w K mg) : MethG P w K mg base (He.ga K "Wait") "fill" ["self"] 1 (S_fill K) := G_Wait_fill X.T (X.A.def_ 29 (d := ⟨fun K => He.ma K (He.ga K "Wait") "fill", "fill", "Wait.fill", defArgs (inClass (top 45) 1), defBody (inClass (top 45) 1), defScope (inClass (top 45) 1), [], []⟩) rfl) (He.meth_ok (X.A.fact 113 (f := .meth "Wait" "fill") rfl)) 
theorem o_Wait_length (X : HX w K mg) : MethG P w K mg base (He.ga K "Wait") "length" ["self", "state"] 1 (S_length K) := G_Wait_length X.T (X.A.def_ 30 (d := ⟨fun K => He.ma K (He.ga K "Wait") "length", "length", "Wait.length", defArgs (inClass (top 45) 2), defBody (inClass (top 45) 2), defScope (inClass (top 45) 2), [], []⟩) rfl) (He.meth_ok (X.A.fact 114 (f := .meth "Wait" "length") rfl)) 
theorem o_EqO (X : HX w K mg) : EqO P w K mg base (He.ga K "Row") 3 := by
  obtain ⟨fd, F⟩ := (X.A.def_ 35 (d := ⟨fun K => He.ma K (He.ga K "Row") "__eq__", "__eq__", "Row.__eq__", defArgs (inClass (top 50) 1), defBody (inClass (top 50) 1), defScope (inClass (top 50) 1), [], []⟩) rfl)
  have F2 : ∃ j, FnOk P w K mg base CX0 (0 + 1) j fd ["self", "other"] (spOf ⟨P, w, K⟩ (fun xs μ Φ => ∃ L ds, xs = [.ob (He.ga K "Row") L ds, dN] ∧ Φ (dB false) μ)) ∧ j = He.ma K (He.ga K "Row") "__eq__" := by
    refine ⟨_, F.ok sc_Row___eq__ (fun vs H Q E h => ?_) fun cdv A outer s H vs Q E hr h => ?_, rfl⟩
    · obtain ⟨F, μ, args, Φ, w, r, h, k⟩ := h
      rw [r.length]
      exact (show ∀ ds μ Φ, ((fun xs μ Φ => ∃ L ds, xs = [.ob (He.ga K "Row") L ds, dN] ∧ Φ (dB false) μ) : DSp) ds μ Φ → ds.length = (["self", "other"] : List Str).length from (by (intro ds μ Φ h; first | (obtain ⟨_, rfl, _⟩ := h; rfl) | (obtain ⟨_, _, rfl, _⟩ := h; rfl) | (obtain ⟨_, _, _, rfl, _⟩ := h; rfl) | (obtain ⟨_, _, _, _, rfl, _⟩ := h; rfl) | (obtain ⟨_, _, _, _, _, rfl, _⟩ := h; rfl) | (obtain ⟨_, _, _, _, _, _, rfl, _⟩ := h; rfl) | (obtain ⟨_, _, _, _, _, _, _, rfl, _⟩ := h; rfl) | (obtain ⟨_, _, _, _, _, _, _, _, rfl, _⟩ := h; rfl) | (obtain ⟨_, _, _, _, _, _, _, _, _, rfl, _⟩ := h; rfl) | (obtain ⟨_, _, _, _, _, _, _, _, _, _, rfl, _⟩ := h; rfl) | (obtain ⟨_, _, _, _, _, _, _, _, _, _, _, rfl, _⟩ := h; rfl) | (obtain ⟨_, _, _, _, _, _, _, _, _, _, _, _, rfl, _⟩ := h; rfl)))) _ _ _ h
    · obtain ⟨ds, h1, h2⟩ := B_Row___eq__ X.T  hr
      exact ⟨_, PSs.nox h1, body_ok h h2⟩
  obtain ⟨j, F2, rfl⟩ := F2
  exact ⟨_, fd, _, F2.mono (by decide), X.eqF.1, X.eqF.2, FunD.bindsN F fun _ _ _ _ _ _ us hl => (match us, hl with | [_, _], _ => rfl), X.T.rowF⟩
theorem o__law_seed (X : HX w K mg) : FnG P w K mg base "_law_seed" ["_law_script", "_law_k"] 1 S_seed := G__law_seed X.T (X.A.def_ 41 (d := ⟨fun K => He.ga K "_law_seed", "_law_seed", "_law_seed", defArgs (top 56), defBody (top 56), defScope (top 56), [], []⟩) rfl) (X.gl 46 "_law_seed" rfl) 
theorem o__law_choose (X : HX w K mg) : FnG P w K mg base "_law_choose" ["_law_box", "_law_many"] 1 S_choose := G__law_choose X.T (X.A.def_ 42 (d := ⟨fun K => He.ga K "_law_choose", "_law_choose", "_law_choose", defArgs (top 57), defBody (top 57), defScope (top 57), [], []⟩) rfl) (X.gl 47 "_law_choose" rfl) 
theorem o__law_row_text (X : HX w K mg) : FnG P w K mg base "_law_row_text" ["_law_row"] 1 S_row_text := G__law_row_text X.T (X.A.def_ 48 (d := ⟨fun K => He.ga K "_law_row_text", "_law_row_text", "_law_row_text", defArgs (top 63), defBody (top 63), defScope (top 63), [], []⟩) rfl) (X.gl 53 "_law_row_text" rfl) 
theorem o__law_region (X : HX w K mg) : FnG P w K mg base "_law_region" ["_law_pick", "_law_pointer", "_law_askers"] 1 S_law_region := G__law_region X.T (X.A.def_ 50 (d := ⟨fun K => He.ga K "_law_region", "_law_region", "_law_region", defArgs (top 65), defBody (top 65), defScope (top 65), [], []⟩) rfl) (X.gl 55 "_law_region" rfl) 
theorem o__law_lots (X : HX w K mg) : FnG P w K mg base "_law_lots" ["_law_many"] 1 S_law_lots := G__law_lots X.T (X.A.def_ 54 (d := ⟨fun K => He.ga K "_law_lots", "_law_lots", "_law_lots", defArgs (top 69), defBody (top 69), defScope (top 69), [], []⟩) rfl) (X.gl 59 "_law_lots" rfl) 
theorem o__law_longest (X : HX w K mg) : FnG P w K mg base "_law_longest" ["_law_nexts_here", "_law_asker"] 1 S_law_longest := G__law_longest X.T (X.A.def_ 56 (d := ⟨fun K => He.ga K "_law_longest", "_law_longest", "_law_longest", defArgs (top 71), defBody (top 71), defScope (top 71), [], []⟩) rfl) (X.gl 61 "_law_longest" rfl) 
theorem o__law_most_in_vain (X : HX w K mg) : FnG P w K mg base "_law_most_in_vain" ["_law_grants", "_law_rounds_here", "_law_asker"] 1 S_most := G__law_most_in_vain X.T (X.A.def_ 59 (d := ⟨fun K => He.ga K "_law_most_in_vain", "_law_most_in_vain", "_law_most_in_vain", defArgs (top 75), defBody (top 75), defScope (top 75), [], []⟩) rfl) (X.gl 64 "_law_most_in_vain" rfl) 
theorem o_first_part (X : HX w K mg) : FnG P w K mg base "first_part" ["pick", "side", "asking"] 2 S_first_part := G_first_part X.T (X.A.def_ 2 (d := ⟨fun K => He.ga K "first_part", "first_part", "first_part", defArgs (top 6), defBody (top 6), defScope (top 6), [], []⟩) rfl) (X.gl 21 "first_part" rfl) (o_region_parts X)
theorem o_lots (X : HX w K mg) : FnG P w K mg base "lots" ["side"] 2 S_lots := G_lots X.T (X.A.def_ 4 (d := ⟨fun K => He.ga K "lots", "lots", "lots", defArgs (top 8), defBody (top 8), defScope (top 8), [], []⟩) rfl) (X.gl 23 "lots" rfl) (o_some_of X)
theorem o_granted_by (X : HX w K mg) : FnG P w K mg base "granted_by" ["row", "pointer", "askers", "asking"] 2 (S_granted_by K) := G_granted_by X.T (X.A.def_ 12 (d := ⟨fun K => He.ga K "granted_by", "granted_by", "granted_by", defArgs (top 30), defBody (top 30), defScope (top 30), [], []⟩) rfl) (X.gl 31 "granted_by" rfl) (o_region_of X)
theorem o_is_round (X : HX w K mg) : FnG P w K mg base "is_round" ["value", "askers"] 2 S_is_round := G_is_round X.T (X.A.def_ 15 (d := ⟨fun K => He.ga K "is_round", "is_round", "is_round", defArgs (top 33), defBody (top 33), defScope (top 33), [], []⟩) rfl) (X.gl 34 "is_round" rfl) (o_is_integer X) (o_is_sequence X)
theorem o_places (X : HX w K mg) : FnG P w K mg base "places" ["asker", "askers", "pointer"] 2 S_places := G_places X.T (X.A.def_ 22 (d := ⟨fun K => He.ga K "places", "places", "places", defArgs (top 41), defBody (top 41), defScope (top 41), [], []⟩) rfl) (X.gl 40 "places" rfl) (o_side_of X)
theorem o_Row___init__ (X : HX w K mg) : MakeG P w K mg base (He.ga K "Row") ["self", "mode", "pick", "move", "then", "also"] 2 (S_Row K) := by
  obtain ⟨fd, F⟩ := (X.A.def_ 34 (d := ⟨fun K => He.ma K (He.ga K "Row") "__init__", "__init__", "Row.__init__", defArgs (inClass (top 50) 0), defBody (inClass (top 50) 0), defScope (inClass (top 50) 0), [.bl false], []⟩) rfl)
  refine ⟨_, fd, X.T.row.mkr, ?_, F.ok sc_Row___init__ (fun vs H Q E h => ?_) fun cdv A outer s H vs Q E hr h => ?_⟩
  · obtain ⟨ds, h1, h2⟩ := FunD.binds1 F (ps := ["self", "mode", "pick", "move", "then", "also"]) 6 1 (fun z => nomatch z) rfl fun T kV doc pm an cdv ct us its hl hi => match us, hl, its, hi with | [_, _, _, _, _, _], _, [_], _ => ⟨_, rfl, rfl⟩
    cases h1
    exact h2
  · obtain ⟨F, μ, args, Φ, w, r, h, k⟩ := h
    rw [r.length]
    exact (show ∀ ds μ Φ, ((S_Row K) : DSp) ds μ Φ → ds.length = (["self", "mode", "pick", "move", "then", "also"] : List Str).length from (by (intro ds μ Φ h; first | (obtain ⟨_, rfl, _⟩ := h; rfl) | (obtain ⟨_, _, rfl, _⟩ := h; rfl) | (obtain ⟨_, _, _, rfl, _⟩ := h; rfl) | (obtain ⟨_, _, _, _, rfl, _⟩ := h; rfl) | (obtain ⟨_, _, _, _, _, rfl, _⟩ := h; rfl) | (obtain ⟨_, _, _, _, _, _, rfl, _⟩ := h; rfl) | (obtain ⟨_, _, _, _, _, _, _, rfl, _⟩ := h; rfl) | (obtain ⟨_, _, _, _, _, _, _, _, rfl, _⟩ := h; rfl) | (obtain ⟨_, _, _, _, _, _, _, _, _, rfl, _⟩ := h; rfl) | (obtain ⟨_, _, _, _, _, _, _, _, _, _, rfl, _⟩ := h; rfl) | (obtain ⟨_, _, _, _, _, _, _, _, _, _, _, rfl, _⟩ := h; rfl) | (obtain ⟨_, _, _, _, _, _, _, _, _, _, _, _, rfl, _⟩ := h; rfl)))) _ _ _ h
  · obtain ⟨ds, h1, h2⟩ := B_Row___init__ X.T (o_is_name X) (o_is_word X) hr
    exact ⟨_, PSs.nox h1, body_ok h h2⟩
theorem o_first_of (X : HX w K mg) : FnG P w K mg base "first_of" ["line"] 2 S_first_of := G_first_of X.T (X.A.def_ 37 (d := ⟨fun K => He.ga K "first_of", "first_of", "first_of", defArgs (top 53), defBody (top 53), defScope (top 53), [], []⟩) rfl) (X.gl 45 "first_of" rfl) (o_is_name X)
theorem o_Rule___init__ (X : HX w K mg) : MakeG P w K mg base (He.ga K "Rule") ["self", "first", "rows"] 2 (S_Rule K) := by
  obtain ⟨fd, F⟩ := (X.A.def_ 38 (d := ⟨fun K => He.ma K (He.ga K "Rule") "__init__", "__init__", "Rule.__init__", defArgs (inClass (top 54) 0), defBody (inClass (top 54) 0), defScope (inClass (top 54) 0), [.adr (He.dflAt ("Rule", some "__init__") 0)], []⟩) rfl)
  refine ⟨_, fd, X.T.rule.mkr, ?_, F.ok sc_Rule___init__ (fun vs H Q E h => ?_) fun cdv A outer s H vs Q E hr h => ?_⟩
  · obtain ⟨ds, h1, h2⟩ := FunD.binds1 F (ps := ["self", "first", "rows"]) 3 1 (fun z => nomatch z) rfl fun T kV doc pm an cdv ct us its hl hi => match us, hl, its, hi with | [_, _, _], _, [_], _ => ⟨_, rfl, rfl⟩
    cases h1
    exact h2
  · obtain ⟨F, μ, args, Φ, w, r, h, k⟩ := h
    rw [r.length]
    exact (show ∀ ds μ Φ, ((S_Rule K) : DSp) ds μ Φ → ds.length = (["self", "first", "rows"] : List Str).length from (by (intro ds μ Φ h; first | (obtain ⟨_, rfl, _⟩ := h; rfl) | (obtain ⟨_, _, rfl, _⟩ := h; rfl) | (obtain ⟨_, _, _, rfl, _⟩ := h; rfl) | (obtain ⟨_, _, _, _, rfl, _⟩ := h; rfl) | (obtain ⟨_, _, _, _, _, rfl, _⟩ := h; rfl) | (obtain ⟨_, _, _, _, _, _, rfl, _⟩ := h; rfl) | (obtain ⟨_, _, _, _, _, _, _, rfl, _⟩ := h; rfl) | (obtain ⟨_, _, _, _, _, _, _, _, rfl, _⟩ := h; rfl) | (obtain ⟨_, _, _, _, _, _, _, _, _, rfl, _⟩ := h; rfl) | (obtain ⟨_, _, _, _, _, _, _, _, _, _, rfl, _⟩ := h; rfl) | (obtain ⟨_, _, _, _, _, _, _, _, _, _, _, rfl, _⟩ := h; rfl) | (obtain ⟨_, _, _, _, _, _, _, _, _, _, _, _, rfl, _⟩ := h; rfl)))) _ _ _ h
  · obtain ⟨ds, h1, h2⟩ := B_Rule___init__ X.T (o_is_name X) (o_is_sequence X) hr
    exact ⟨_, PSs.nox h1, body_ok h h2⟩
theorem o__law_one_of (X : HX w K mg) : FnG P w K mg base "_law_one_of" ["_law_box", "_law_some"] 2 S_one_of := G__law_one_of X.T (X.A.def_ 43 (d := ⟨fun K => He.ga K "_law_one_of", "_law_one_of", "_law_one_of", defArgs (top 58), defBody (top 58), defScope (top 58), [], []⟩) rfl) (X.gl 48 "_law_one_of" rfl) (o__law_choose X)
theorem o__law_rule_text (X : HX w K mg) : FnG P w K mg base "_law_rule_text" ["_law_rule_here"] 2 S_rule_text := G__law_rule_text X.T (X.A.def_ 49 (d := ⟨fun K => He.ga K "_law_rule_text", "_law_rule_text", "_law_rule_text", defArgs (top 64), defBody (top 64), defScope (top 64), [], []⟩) rfl) (X.gl 54 "_law_rule_text" rfl) (o__law_row_text X)
theorem o__law_round (X : HX w K mg) : FnG P w K mg base "_law_round" ["_law_rule_here", "_law_state", "_law_askers", "_law_asking_here"] 2 S_law_round := G__law_round X.T (X.A.def_ 51 (d := ⟨fun K => He.ga K "_law_round", "_law_round", "_law_round", defArgs (top 66), defBody (top 66), defScope (top 66), [], []⟩) rfl) (X.gl 56 "_law_round" rfl) (o__law_region X)
theorem o_parts_granted (X : HX w K mg) : FnG P w K mg base "parts_granted" ["rule", "mode", "side", "asking"] 3 (S_parts_granted K) := G_parts_granted X.T (X.A.def_ 3 (d := ⟨fun K => He.ga K "parts_granted", "parts_granted", "parts_granted", defArgs (top 7), defBody (top 7), defScope (top 7), [], []⟩) rfl) (X.gl 22 "parts_granted" rfl) (o_first_part X)
theorem o_round_done (X : HX w K mg) : FnG P w K mg base "round_done" ["rule", "mode", "pointer", "askers", "asking"] 3 (S_round_done K) := G_round_done X.T (X.A.def_ 14 (d := ⟨fun K => He.ga K "round_done", "round_done", "round_done", defArgs (top 32), defBody (top 32), defScope (top 32), [], []⟩) rfl) (X.gl 33 "round_done" rfl) (o_granted_by X) (o_pointer_behind X)
theorem o_good_rounds (X : HX w K mg) : FnG P w K mg base "good_rounds" ["askers", "rounds"] 3 S_good_rounds := G_good_rounds X.T (X.A.def_ 17 (d := ⟨fun K => He.ga K "good_rounds", "good_rounds", "good_rounds", defArgs (top 35), defBody (top 35), defScope (top 35), [], []⟩) rfl) (X.gl 36 "good_rounds" rfl) (o_ascending X) (o_is_round X) (o_is_sequence X)
theorem o_Beside_round_of (X : HX w K mg) : MethG P w K mg base (He.ga K "Beside") "round_of" ["self", "state", "choice"] 3 (S_round_of K) := G_Beside_round_of X.T (X.A.def_ 26 (d := ⟨fun K => He.ma K (He.ga K "Beside") "round_of", "round_of", "Beside.round_of", defArgs (inClass (top 42) 3), defBody (inClass (top 42) 3), defScope (inClass (top 42) 3), [], []⟩) rfl) (He.meth_ok (X.A.fact 112 (f := .meth "Beside" "round_of") rfl)) (o_places X)
theorem o__law_names (X : HX w K mg) : FnG P w K mg base "_law_names" ["_law_box"] 3 S_names := G__law_names X.T (X.A.def_ 44 (d := ⟨fun K => He.ga K "_law_names", "_law_names", "_law_names", defArgs (top 59), defBody (top 59), defScope (top 59), [], []⟩) rfl) (X.gl 49 "_law_names" rfl) (o__law_one_of X)
theorem o__law_any_row (X : HX w K mg) : FnG P w K mg base "_law_any_row" ["_law_box", "_law_names_here"] 3 S_any_row := G__law_any_row X.T (X.A.def_ 45 (d := ⟨fun K => He.ga K "_law_any_row", "_law_any_row", "_law_any_row", defArgs (top 60), defBody (top 60), defScope (top 60), [], []⟩) rfl) (X.gl 50 "_law_any_row" rfl) (o__law_choose X) (o__law_one_of X)
theorem o__law_fair_rows (X : HX w K mg) : FnG P w K mg base "_law_fair_rows" ["_law_box", "_law_names_here"] 3 S_fair := G__law_fair_rows X.T (X.A.def_ 46 (d := ⟨fun K => He.ga K "_law_fair_rows", "_law_fair_rows", "_law_fair_rows", defArgs (top 61), defBody (top 61), defScope (top 61), [], []⟩) rfl) (X.gl 51 "_law_fair_rows" rfl) (o__law_choose X) (o__law_one_of X)
theorem o__law_asking (X : HX w K mg) : FnG P w K mg base "_law_asking" ["_law_box", "_law_askers"] 3 S_asking := G__law_asking X.T (X.A.def_ 52 (d := ⟨fun K => He.ga K "_law_asking", "_law_asking", "_law_asking", defArgs (top 67), defBody (top 67), defScope (top 67), [], []⟩) rfl) (X.gl 57 "_law_asking" rfl) (o__law_choose X) (o__law_one_of X)
theorem o__law_nexts (X : HX w K mg) : FnG P w K mg base "_law_nexts" ["_law_rule_here", "_law_askers"] 3 S_nexts := G__law_nexts X.T (X.A.def_ 55 (d := ⟨fun K => He.ga K "_law_nexts", "_law_nexts", "_law_nexts", defArgs (top 70), defBody (top 70), defScope (top 70), [], []⟩) rfl) (X.gl 60 "_law_nexts" rfl) (o__law_lots X) (o__law_round X)
theorem o_vain_rounds (X : HX w K mg) : FnG P w K mg base "vain_rounds" ["rule", "mode", "side"] 4 (S_vain_rounds K) := G_vain_rounds X.T (X.A.def_ 6 (d := ⟨fun K => He.ga K "vain_rounds", "vain_rounds", "vain_rounds", defArgs (top 10), defBody (top 10), defScope (top 10), [], []⟩) rfl) (X.gl 25 "vain_rounds" rfl) (o_lots X) (o_parts_granted X) (o_step_led X)
theorem o_play (X : HX w K mg) : FnG P w K mg base "play" ["rule", "askers", "rounds"] 4 (S_play K) := G_play X.T (X.A.def_ 20 (d := ⟨fun K => He.ga K "play", "play", "play", defArgs (top 38), defBody (top 38), defScope (top 38), [], []⟩) rfl) (X.gl 38 "play" rfl) (o_Played___init__ X) (o_faults_in X) (o_good_rounds X) (o_round_done X)
theorem o_ways_to (X : HX w K mg) : FnG P w K mg base "ways_to" ["rule", "askers"] 4 (S_ways_to K) := G_ways_to X.T (X.A.def_ 27 (d := ⟨fun K => He.ga K "ways_to", "ways_to", "ways_to", defArgs (top 43), defBody (top 43), defScope (top 43), [], []⟩) rfl) (X.gl 41 "ways_to" rfl) (o_round_done X)
theorem o_row_of (X : HX w K mg) : FnG P w K mg base "row_of" ["text"] 4 (S_row_of K) := G_row_of X.T (X.A.def_ 36 (d := ⟨fun K => He.ga K "row_of", "row_of", "row_of", defArgs (top 51), defBody (top 51), defScope (top 51), [], []⟩) rfl) (X.gl 44 "row_of" rfl) (o_Row___init__ X)
theorem o__law_rule (X : HX w K mg) : FnG P w K mg base "_law_rule" ["_law_box", "_law_most"] 4 S_rule := G__law_rule X.T (X.A.def_ 47 (d := ⟨fun K => He.ga K "_law_rule", "_law_rule", "_law_rule", defArgs (top 62), defBody (top 62), defScope (top 62), [], []⟩) rfl) (X.gl 52 "_law_rule" rfl) (o__law_any_row X) (o__law_choose X) (o__law_fair_rows X) (o__law_names X)
theorem o__law_rounds (X : HX w K mg) : FnG P w K mg base "_law_rounds" ["_law_box", "_law_askers", "_law_many"] 4 S_rounds := G__law_rounds X.T (X.A.def_ 53 (d := ⟨fun K => He.ga K "_law_rounds", "_law_rounds", "_law_rounds", defArgs (top 68), defBody (top 68), defScope (top 68), [], []⟩) rfl) (X.gl 58 "_law_rounds" rfl) (o__law_asking X) (o__law_choose X)
theorem o__law_waited (X : HX w K mg) : FnG P w K mg base "_law_waited" ["_law_rule_here", "_law_askers"] 4 S_waited := G__law_waited X.T (X.A.def_ 57 (d := ⟨fun K => He.ga K "_law_waited", "_law_waited", "_law_waited", defArgs (top 72), defBody (top 72), defScope (top 72), [], []⟩) rfl) (X.gl 62 "_law_waited" rfl) (o__law_longest X) (o__law_nexts X)
theorem o_Beside_rounds_told (X : HX w K mg) : MethG P w K mg base (He.ga K "Beside") "rounds_told" ["self", "mode", "side"] 5 (S_rounds_told K) := G_Beside_rounds_told X.T (X.A.def_ 24 (d := ⟨fun K => He.ma K (He.ga K "Beside") "rounds_told", "rounds_told", "Beside.rounds_told", defArgs (inClass (top 42) 1), defBody (inClass (top 42) 1), defScope (inClass (top 42) 1), [], []⟩) rfl) (He.meth_ok (X.A.fact 110 (f := .meth "Beside" "rounds_told") rfl)) (o_vain_rounds X)
theorem o_Rule_read (X : HX w K mg) : CMethG P w K mg base (He.ga K "Rule") (.type "type") "read" ["cls", "text"] 5 (S_read K) := by
  obtain ⟨fd, F⟩ := (X.A.def_ 39 (d := ⟨fun K => He5.wf K (He.ga K "Rule") "classmethod" "read", "read", "Rule.read", defArgs (inClass (top 54) 1), defBody (inClass (top 54) 1), defScope (inClass (top 54) 1), [], []⟩) rfl)
  refine ⟨_, _, fd, X.cread, X.cmet, FunD.bindsN F fun _ _ _ _ _ _ us hl => (match us, hl with | [_, _], _ => rfl), F.ok sc_Rule_read (fun vs H Q E h => ?_) fun cdv A outer s H vs Q E hr h => ?_⟩
  · obtain ⟨F, μ, args, Φ, w, r, h, k⟩ := h
    rw [r.length]
    exact (show ∀ ds μ Φ, ((S_read K) : DSp) ds μ Φ → ds.length = (["cls", "text"] : List Str).length from (by (intro ds μ Φ h; first | (obtain ⟨_, rfl, _⟩ := h; rfl) | (obtain ⟨_, _, rfl, _⟩ := h; rfl) | (obtain ⟨_, _, _, rfl, _⟩ := h; rfl) | (obtain ⟨_, _, _, _, rfl, _⟩ := h; rfl) | (obtain ⟨_, _, _, _, _, rfl, _⟩ := h; rfl) | (obtain ⟨_, _, _, _, _, _, rfl, _⟩ := h; rfl) | (obtain ⟨_, _, _, _, _, _, _, rfl, _⟩ := h; rfl) | (obtain ⟨_, _, _, _, _, _, _, _, rfl, _⟩ := h; rfl) | (obtain ⟨_, _, _, _, _, _, _, _, _, rfl, _⟩ := h; rfl) | (obtain ⟨_, _, _, _, _, _, _, _, _, _, rfl, _⟩ := h; rfl) | (obtain ⟨_, _, _, _, _, _, _, _, _, _, _, rfl, _⟩ := h; rfl) | (obtain ⟨_, _, _, _, _, _, _, _, _, _, _, _, rfl, _⟩ := h; rfl)))) _ _ _ h
  · obtain ⟨ds, h1, h2⟩ := B_Rule_read X.T (o_Rule___init__ X) (o_first_of X) (o_row_of X) (o_EqO X) hr
    exact ⟨_, PSs.nox h1, body_ok h h2⟩
theorem o_Rule___call__ (X : HX w K mg) : CallG P w K mg base (He.ga K "Rule") ["self", "askers", "rounds"] 5 (S_RuleCall K) := by
  obtain ⟨fd, F⟩ := (X.A.def_ 40 (d := ⟨fun K => He.ma K (He.ga K "Rule") "__call__", "__call__", "Rule.__call__", defArgs (inClass (top 54) 5), defBody (inClass (top 54) 5), defScope (inClass (top 54) 5), [], []⟩) rfl)
  refine ⟨_, fd, X.call, FunD.bindsN F fun _ _ _ _ _ _ us hl => (match us, hl with | [_, _, _], _ => rfl), F.ok sc_Rule___call__ (fun vs H Q E h => ?_) fun cdv A outer s H vs Q E hr h => ?_⟩
  · obtain ⟨F, μ, args, Φ, w, r, h, k⟩ := h
    rw [r.length]
    exact (show ∀ ds μ Φ, ((S_RuleCall K) : DSp) ds μ Φ → ds.length = (["self", "askers", "rounds"] : List Str).length from (by (intro ds μ Φ h; first | (obtain ⟨_, rfl, _⟩ := h; rfl) | (obtain ⟨_, _, rfl, _⟩ := h; rfl) | (obtain ⟨_, _, _, rfl, _⟩ := h; rfl) | (obtain ⟨_, _, _, _, rfl, _⟩ := h; rfl) | (obtain ⟨_, _, _, _, _, rfl, _⟩ := h; rfl) | (obtain ⟨_, _, _, _, _, _, rfl, _⟩ := h; rfl) | (obtain ⟨_, _, _, _, _, _, _, rfl, _⟩ := h; rfl) | (obtain ⟨_, _, _, _, _, _, _, _, rfl, _⟩ := h; rfl) | (obtain ⟨_, _, _, _, _, _, _, _, _, rfl, _⟩ := h; rfl) | (obtain ⟨_, _, _, _, _, _, _, _, _, _, rfl, _⟩ := h; rfl) | (obtain ⟨_, _, _, _, _, _, _, _, _, _, _, rfl, _⟩ := h; rfl) | (obtain ⟨_, _, _, _, _, _, _, _, _, _, _, _, rfl, _⟩ := h; rfl)))) _ _ _ h
  · obtain ⟨ds, h1, h2⟩ := B_Rule___call__ X.T (o_play X) hr
    exact ⟨_, PSs.nox h1, body_ok h h2⟩
theorem o_Beside_choices (X : HX w K mg) : MethG P w K mg base (He.ga K "Beside") "choices" ["self", "state"] 6 (S_choices K) := G_Beside_choices X.T (X.A.def_ 25 (d := ⟨fun K => He.ma K (He.ga K "Beside") "choices", "choices", "Beside.choices", defArgs (inClass (top 42) 2), defBody (inClass (top 42) 2), defScope (inClass (top 42) 2), [], []⟩) rfl) (He.meth_ok (X.A.fact 111 (f := .meth "Beside" "choices") rfl)) (o_Beside_rounds_told X) (o_places X) (o_side_of X)
theorem o__law_home (X : HX w K mg) : FnG P w K mg base "_law_home" ["_law_rule_here"] 6 (S_home K) := G__law_home X.T (X.A.def_ 58 (d := ⟨fun K => He.ga K "_law_home", "_law_home", "_law_home", defArgs (top 74), defBody (top 74), defScope (top 74), [], []⟩) rfl) (X.gl 63 "_law_home" rfl) (o_Rule_read X) (o__law_rule_text X)
theorem o_Wait___init__ (X : HX w K mg) : MakeG P w K mg base (He.ga K "Wait") ["self", "rule", "askers", "asker", "states"] 7 (S_Wait K) := makeG_of (X.A.def_ 28 (d := ⟨fun K => He.ma K (He.ga K "Wait") "__init__", "__init__", "Wait.__init__", defArgs (inClass (top 45) 0), defBody (inClass (top 45) 0), defScope (inClass (top 45) 0), [], []⟩) rfl) X.T.wait.mkr sc_Wait___init__ (fun _ _ _ _ _ _ us hl => match us, hl with | [_, _, _, _, _], _ => rfl) (by (intro ds μ Φ h; first | (obtain ⟨_, rfl, _⟩ := h; rfl) | (obtain ⟨_, _, rfl, _⟩ := h; rfl) | (obtain ⟨_, _, _, rfl, _⟩ := h; rfl) | (obtain ⟨_, _, _, _, rfl, _⟩ := h; rfl) | (obtain ⟨_, _, _, _, _, rfl, _⟩ := h; rfl) | (obtain ⟨_, _, _, _, _, _, rfl, _⟩ := h; rfl) | (obtain ⟨_, _, _, _, _, _, _, rfl, _⟩ := h; rfl) | (obtain ⟨_, _, _, _, _, _, _, _, rfl, _⟩ := h; rfl) | (obtain ⟨_, _, _, _, _, _, _, _, _, rfl, _⟩ := h; rfl) | (obtain ⟨_, _, _, _, _, _, _, _, _, _, rfl, _⟩ := h; rfl) | (obtain ⟨_, _, _, _, _, _, _, _, _, _, _, rfl, _⟩ := h; rfl) | (obtain ⟨_, _, _, _, _, _, _, _, _, _, _, _, rfl, _⟩ := h; rfl))) (B_Wait___init__ X.T (o_Beside___init__ X) (o_Beside_choices X) (o_Wait_fill X))
theorem o_Wait_row (X : HX w K mg) : MethG P w K mg base (He.ga K "Wait") "row" ["self", "state"] 7 (S_row K) := G_Wait_row X.T (X.A.def_ 31 (d := ⟨fun K => He.ma K (He.ga K "Wait") "row", "row", "Wait.row", defArgs (inClass (top 45) 3), defBody (inClass (top 45) 3), defScope (inClass (top 45) 3), [], []⟩) rfl) (He.meth_ok (X.A.fact 115 (f := .meth "Wait" "row") rfl)) (o_Beside_choices X) (o_Beside_round_of X) (o_Wait_length X)
theorem o_longest (X : HX w K mg) : FnG P w K mg base "longest" ["rule", "askers"] 9 (S_longest K) := G_longest X.T (X.A.def_ 32 (d := ⟨fun K => He.ga K "longest", "longest", "longest", defArgs (top 46), defBody (top 46), defScope (top 46), [], []⟩) rfl) (X.gl 42 "longest" rfl) (o_Wait___init__ X) (o_Wait_length X) (o_Wait_row X) (o_ways_to X)
theorem o_waits (X : HX w K mg) : FnG P w K mg base "waits" ["rule", "askers"] 10 (S_waits K) := G_waits X.T (X.A.def_ 33 (d := ⟨fun K => He.ga K "waits", "waits", "waits", defArgs (top 47), defBody (top 47), defScope (top 47), [], []⟩) rfl) (X.gl 43 "waits" rfl) (o_longest X)
theorem o_law (X : HX w K mg) : ∃ fd : FuncData, (∀ (s : Shared) (u : Value), BindsTo s fd ⟨[u], []⟩ [("_law_script", u)]) ∧ ∀ base : Heap, FnOk P w K mg base CX0 11 (He.ga K "law") fd ["_law_script"] (spOf ⟨P, w, K⟩ S_law) := by
  obtain ⟨fd, F⟩ := (X.A.def_ 60 (d := ⟨fun K => He.ga K "law", "law", "law", defArgs (top 76), defBody (top 76), defScope (top 76), [], []⟩) rfl)
  have b := FunD.bindsA (ps := ["_law_script"]) F fun _ _ _ _ _ _ us hl => (match us, hl with | [_], _ => rfl)
  refine ⟨fd, fun s u => b s [u] rfl, fun base => F.ok sc_law (fun vs H Q E h => ?_) fun cdv A outer s H vs Q E hr h => ?_⟩
  · obtain ⟨F, μ, args, Φ, w, r, h, k⟩ := h
    rw [r.length]
    exact (show ∀ ds μ Φ, (S_law : DSp) ds μ Φ → ds.length = (["_law_script"] : List Str).length from (by (intro ds μ Φ h; first | (obtain ⟨_, rfl, _⟩ := h; rfl) | (obtain ⟨_, _, rfl, _⟩ := h; rfl) | (obtain ⟨_, _, _, rfl, _⟩ := h; rfl) | (obtain ⟨_, _, _, _, rfl, _⟩ := h; rfl) | (obtain ⟨_, _, _, _, _, rfl, _⟩ := h; rfl) | (obtain ⟨_, _, _, _, _, _, rfl, _⟩ := h; rfl) | (obtain ⟨_, _, _, _, _, _, _, rfl, _⟩ := h; rfl) | (obtain ⟨_, _, _, _, _, _, _, _, rfl, _⟩ := h; rfl) | (obtain ⟨_, _, _, _, _, _, _, _, _, rfl, _⟩ := h; rfl) | (obtain ⟨_, _, _, _, _, _, _, _, _, _, rfl, _⟩ := h; rfl) | (obtain ⟨_, _, _, _, _, _, _, _, _, _, _, rfl, _⟩ := h; rfl) | (obtain ⟨_, _, _, _, _, _, _, _, _, _, _, _, rfl, _⟩ := h; rfl)))) _ _ _ h
  · obtain ⟨ds, h1, h2⟩ := B_law (base := base) X.T (o_Rule___call__ X) (o__law_home X) (o__law_most_in_vain X) (o__law_rounds X) (o__law_rule X) (o__law_seed X) (o__law_waited X) (o_longest X) (o_play X) (o_waits X) hr
    exact ⟨_, PSs.nox h1, body_ok h h2⟩
theorem law_end (H : Hp) (a : Addr) (ns : List Int) (hl : ns.length ≤ 63) (hS : SqL K H a (ns.map V.int)) : spOf ⟨P, w, K⟩ S_law [.ref a] H (fun v _ => v = .bl true) fun _ _ _ => False := by
  refine ⟨H, fun _ => none, [.lst (ns.map dI)], fun d _ => d = dB true, ⟨Same.refl H, Same.refl H, fun _ _ e _ => e, fun _ e => e, fun _ e1 e2 => absurd e1 e2, Slots.nil, (fun _ _ e => nomatch e)⟩, .cons (.lst hS ?_) .nil, ⟨ns, rfl, by omega, rfl⟩, ?_⟩
  · rw [mapI]; exact Reps.of_scal _
  · rintro v d μ' F' H' _ r rfl
    exact r.inv_v
end
end K3
set_option Elab.async false
set_option linter.all false
set_option maxRecDepth 100000
set_option maxHeartbeats 0
/-! KZZ: the statement. -/
open PySem PySem.W PySem.Calls PyProof.Rows
theorem PySem.Challenge.cw_lineturns_k73_whole_waits_and_plays_holds : PySem.Challenge.rw_lineturns_k73_whole_waits_and_plays.Holds := by
  w_on; o_law
  refine HandSHeadRun.head_any (r := OpenLaw.row PySem.Challenge.rw_lineturns_k73_whole_waits_and_plays) (q := view (OpenLaw.row PySem.Challenge.rw_lineturns_k73_whole_waits_and_plays).prog [76]) (H := K3.hkX) (ob := K3.obX) (M := 6000) (loose := K3.loose1 ++ (K3.loose2 ++ K3.loose3)) (d := HandSHeadRun.topDef (OpenLaw.row PySem.Challenge.rw_lineturns_k73_whole_waits_and_plays).prog 76) (kwd := []) K3.obX_eq
    (by kernel_rfl) (fun s => by kernel_rfl) K3.runX (by kernel_rfl) (by kernel_rfl) (by kernel_rfl) (by rfl) (by first | assumption | decide +kernel) (by decide +kernel) ⟨rfl, rfl, rfl, rfl, rfl, by decide +kernel⟩ ?hw ?hc
  case hw => w_witness2
  case hc =>
    refine L2.walk_ofE (l := PySem.Challenge.rw_lineturns_k73_whole_waits_and_plays) (n := 63) (k := 11) (x := "_law_script") (CX := L2.CX0) rfl (by decide) (by kernel_rfl) ⟨rfl, by decide, by decide⟩ ?F (fun _ _ _ _ z => z)
    intro w mg fa h Y G hmg0
    obtain ⟨K, KX, c⟩ := Y
    have hmg : mg ("law" : PySem.Str) = some (.ref fa) := by
      have e : (HandSHeadRun.topDef (OpenLaw.row PySem.Challenge.rw_lineturns_k73_whole_waits_and_plays).prog 76).name = ("law" : PySem.Str) := by kernel_rfl
      rw [← e]
      exact hmg0
    have X := K3.hx_of KX G c
    have e := hmg.symm.trans (X.gl 65 "law" rfl)
    cases e
    obtain ⟨fd, hb, hF⟩ := K3.o_law (P := (PySem.Challenge.rw_lineturns_k73_whole_waits_and_plays).prog) X
    exact ⟨K, fd, K3.spOf ⟨_, w, K⟩ K3.S_law, KX, hb, fun H a ns hl _ hS => K3.law_end H a ns hl hS, fun base _ _ => hF base⟩
