import PyProof.Rows.All
import Wide.All
import OpenK.AllK
import Wide.FinOn
import KE.KStateDown
import HandS.ForMost
import HandS.More
import HandS.Codes
import HandS.Style
import HandS.Finally
import HandS.Wide
import HandS.DeepEq
import HandS.Flow
import HandS.Walk
import HandS.Rev
import HandS.Exc
import HandS.WordsExc
import HandS.Defaults
import HandS.Head0
import HandS.Head1
import HandS.Head2
import HandS.HeadEnd
import HandS.HeadHook1
import HandS.HeadHook2
import KE.GoesMore
import KE.GoesEnum
import HandS.TupAny
import PySem.Challenge.RW_swapstride_k39_houses_begun_amid
set_option Elab.async false
set_option linter.all false
set_option maxRecDepth 100000
set_option maxHeartbeats 4000000
/-! The text by places, the facts of its top. -/
namespace Sw
open PySem PySem.Spec PyProof.Rows L2
def top (i : Nat) : Stmt := PySem.Challenge.pw_swapstride_k39_houses_begun_amid.main.body.getD i (.Pass ⟨0, 0, 0, 0⟩)
abbrev sPNamed : Stmt := top 1
abbrev sPHandOf : Stmt := top 2
abbrev sPWaysOf : Stmt := top 3
abbrev sPKindTold : Stmt := top 5
abbrev sPSortOf : Stmt := top 6
abbrev sPPartsOf : Stmt := top 7
abbrev sPNought : Stmt := top 10
abbrev sPField : Stmt := top 11
abbrev sPWorthOfTwo : Stmt := top 13
abbrev sPWorthOfCase : Stmt := top 14
abbrev sPWorth : Stmt := top 15
abbrev sPFirstStand : Stmt := top 17
abbrev sPCopied : Stmt := top 18
abbrev sL_Init : Stmt := inClass (top 19) 0
abbrev sL_Stand : Stmt := inClass (top 19) 1
abbrev sL_Told : Stmt := inClass (top 19) 2
abbrev sL_Sent : Stmt := inClass (top 19) 3
abbrev sL_Left : Stmt := inClass (top 19) 4
abbrev sL_Count : Stmt := inClass (top 19) 5
abbrev sL_Value : Stmt := inClass (top 19) 6
abbrev sL_Step : Stmt := inClass (top 19) 7
abbrev sP_Init : Stmt := inClass (top 21) 0
abbrev sP_Share : Stmt := inClass (top 21) 1
abbrev sP_Step : Stmt := inClass (top 21) 2
abbrev sP_Stand : Stmt := inClass (top 21) 3
abbrev sP_Told : Stmt := inClass (top 21) 4
abbrev sP_Count : Stmt := inClass (top 21) 5
abbrev sP_Letters : Stmt := inClass (top 21) 6
abbrev sP_Weave : Stmt := inClass (top 21) 7
abbrev sP_Still : Stmt := inClass (top 21) 8
abbrev sPPlainAt : Stmt := top 22
abbrev sGFeed : Stmt := top 24
abbrev sGTake : Stmt := top 25
abbrev sGNames : Stmt := top 26
abbrev sGNumber : Stmt := top 27
abbrev sGSortOf : Stmt := top 28
abbrev sGSize : Stmt := top 29
abbrev sGSmall : Stmt := top 30
abbrev sGParts : Stmt := top 31
abbrev sGKinds : Stmt := top 32
abbrev sGBoxed : Stmt := top 33
abbrev sGArms : Stmt := top 34
abbrev sGWholeTerm : Stmt := top 35
abbrev sGTerm : Stmt := top 36
abbrev sGNewTerm : Stmt := top 37
abbrev sGAnyKind : Stmt := top 38
abbrev sGChannels : Stmt := top 39
abbrev sGBoxes : Stmt := top 40
abbrev sGInto : Stmt := top 41
abbrev sGDeal : Stmt := top 42
abbrev sGRows : Stmt := top 43
abbrev sGMake : Stmt := top 44
abbrev sGHands : Stmt := top 45
abbrev sGValue : Stmt := top 46
abbrev sGHandsOf : Stmt := top 47
abbrev sGWeaving : Stmt := top 48
abbrev sGState : Stmt := top 49
abbrev sGPartsOf : Stmt := top 50
abbrev sGOwn : Stmt := top 51
abbrev sGSpoil : Stmt := top 52
abbrev sGStill : Stmt := top 53
abbrev sGLoneAlike : Stmt := top 54
abbrev sLaw : Stmt := top 55
def dPNamed : He.DefD := ⟨("named", none), "named", "named", defArgs sPNamed, defBody sPNamed, defScope sPNamed, [], []⟩
def dPHandOf : He.DefD := ⟨("hand_of", none), "hand_of", "hand_of", defArgs sPHandOf, defBody sPHandOf, defScope sPHandOf, [], []⟩
def dPWaysOf : He.DefD := ⟨("ways_of", none), "ways_of", "ways_of", defArgs sPWaysOf, defBody sPWaysOf, defScope sPWaysOf, [], []⟩
def dPKindTold : He.DefD := ⟨("kind_told", none), "kind_told", "kind_told", defArgs sPKindTold, defBody sPKindTold, defScope sPKindTold, [], []⟩
def dPSortOf : He.DefD := ⟨("sort_of", none), "sort_of", "sort_of", defArgs sPSortOf, defBody sPSortOf, defScope sPSortOf, [], []⟩
def dPPartsOf : He.DefD := ⟨("parts_of", none), "parts_of", "parts_of", defArgs sPPartsOf, defBody sPPartsOf, defScope sPPartsOf, [], []⟩
def dPNought : He.DefD := ⟨("nought", none), "nought", "nought", defArgs sPNought, defBody sPNought, defScope sPNought, [], []⟩
def dPField : He.DefD := ⟨("field", none), "field", "field", defArgs sPField, defBody sPField, defScope sPField, [], []⟩
def dPWorthOfTwo : He.DefD := ⟨("worth_of_two", none), "worth_of_two", "worth_of_two", defArgs sPWorthOfTwo, defBody sPWorthOfTwo, defScope sPWorthOfTwo, [], []⟩
def dPWorthOfCase : He.DefD := ⟨("worth_of_case", none), "worth_of_case", "worth_of_case", defArgs sPWorthOfCase, defBody sPWorthOfCase, defScope sPWorthOfCase, [], []⟩
def dPWorth : He.DefD := ⟨("worth", none), "worth", "worth", defArgs sPWorth, defBody sPWorth, defScope sPWorth, [], []⟩
def dPFirstStand : He.DefD := ⟨("first_stand", none), "first_stand", "first_stand", defArgs sPFirstStand, defBody sPFirstStand, defScope sPFirstStand, [], []⟩
def dPCopied : He.DefD := ⟨("copied", none), "copied", "copied", defArgs sPCopied, defBody sPCopied, defScope sPCopied, [], []⟩
def dL_Init : He.DefD := ⟨("Lone", (some "__init__")), "__init__", "Lone.__init__", defArgs sL_Init, defBody sL_Init, defScope sL_Init, [.non], []⟩
def dL_Stand : He.DefD := ⟨("Lone", (some "stand")), "stand", "Lone.stand", defArgs sL_Stand, defBody sL_Stand, defScope sL_Stand, [], []⟩
def dL_Told : He.DefD := ⟨("Lone", (some "told")), "told", "Lone.told", defArgs sL_Told, defBody sL_Told, defScope sL_Told, [], []⟩
def dL_Sent : He.DefD := ⟨("Lone", (some "sent")), "sent", "Lone.sent", defArgs sL_Sent, defBody sL_Sent, defScope sL_Sent, [], []⟩
def dL_Left : He.DefD := ⟨("Lone", (some "left")), "left", "Lone.left", defArgs sL_Left, defBody sL_Left, defScope sL_Left, [], []⟩
def dL_Count : He.DefD := ⟨("Lone", (some "count")), "count", "Lone.count", defArgs sL_Count, defBody sL_Count, defScope sL_Count, [], []⟩
def dL_Value : He.DefD := ⟨("Lone", (some "value")), "value", "Lone.value", defArgs sL_Value, defBody sL_Value, defScope sL_Value, [], []⟩
def dL_Step : He.DefD := ⟨("Lone", (some "step")), "step", "Lone.step", defArgs sL_Step, defBody sL_Step, defScope sL_Step, [], []⟩
def dP_Init : He.DefD := ⟨("Plain", (some "__init__")), "__init__", "Plain.__init__", defArgs sP_Init, defBody sP_Init, defScope sP_Init, [], []⟩
def dP_Share : He.DefD := ⟨("Plain", (some "share")), "share", "Plain.share", defArgs sP_Share, defBody sP_Share, defScope sP_Share, [], []⟩
def dP_Step : He.DefD := ⟨("Plain", (some "step")), "step", "Plain.step", defArgs sP_Step, defBody sP_Step, defScope sP_Step, [], []⟩
def dP_Stand : He.DefD := ⟨("Plain", (some "stand")), "stand", "Plain.stand", defArgs sP_Stand, defBody sP_Stand, defScope sP_Stand, [], []⟩
def dP_Told : He.DefD := ⟨("Plain", (some "told")), "told", "Plain.told", defArgs sP_Told, defBody sP_Told, defScope sP_Told, [], []⟩
def dP_Count : He.DefD := ⟨("Plain", (some "count")), "count", "Plain.count", defArgs sP_Count, defBody sP_Count, defScope sP_Count, [], []⟩
def dP_Letters : He.DefD := ⟨("Plain", (some "letters")), "letters", "Plain.letters", defArgs sP_Letters, defBody sP_Letters, defScope sP_Letters, [], []⟩
def dP_Weave : He.DefD := ⟨("Plain", (some "weave")), "weave", "Plain.weave", defArgs sP_Weave, defBody sP_Weave, defScope sP_Weave, [], []⟩
def dP_Still : He.DefD := ⟨("Plain", (some "still")), "still", "Plain.still", defArgs sP_Still, defBody sP_Still, defScope sP_Still, [], []⟩
def dPPlainAt : He.DefD := ⟨("plain_at", none), "plain_at", "plain_at", defArgs sPPlainAt, defBody sPPlainAt, defScope sPPlainAt, [], []⟩
def dGFeed : He.DefD := ⟨("_law_feed", none), "_law_feed", "_law_feed", defArgs sGFeed, defBody sGFeed, defScope sGFeed, [], []⟩
def dGTake : He.DefD := ⟨("_law_take", none), "_law_take", "_law_take", defArgs sGTake, defBody sGTake, defScope sGTake, [], []⟩
def dGNames : He.DefD := ⟨("_law_names", none), "_law_names", "_law_names", defArgs sGNames, defBody sGNames, defScope sGNames, [], []⟩
def dGNumber : He.DefD := ⟨("_law_number", none), "_law_number", "_law_number", defArgs sGNumber, defBody sGNumber, defScope sGNumber, [], []⟩
def dGSortOf : He.DefD := ⟨("_law_sort_of", none), "_law_sort_of", "_law_sort_of", defArgs sGSortOf, defBody sGSortOf, defScope sGSortOf, [], []⟩
def dGSize : He.DefD := ⟨("_law_size", none), "_law_size", "_law_size", defArgs sGSize, defBody sGSize, defScope sGSize, [], []⟩
def dGSmall : He.DefD := ⟨("_law_small", none), "_law_small", "_law_small", defArgs sGSmall, defBody sGSmall, defScope sGSmall, [], []⟩
def dGParts : He.DefD := ⟨("_law_parts", none), "_law_parts", "_law_parts", defArgs sGParts, defBody sGParts, defScope sGParts, [], []⟩
def dGKinds : He.DefD := ⟨("_law_kinds", none), "_law_kinds", "_law_kinds", defArgs sGKinds, defBody sGKinds, defScope sGKinds, [], []⟩
def dGBoxed : He.DefD := ⟨("_law_boxed", none), "_law_boxed", "_law_boxed", defArgs sGBoxed, defBody sGBoxed, defScope sGBoxed, [], []⟩
def dGArms : He.DefD := ⟨("_law_arms", none), "_law_arms", "_law_arms", defArgs sGArms, defBody sGArms, defScope sGArms, [], []⟩
def dGWholeTerm : He.DefD := ⟨("_law_whole_term", none), "_law_whole_term", "_law_whole_term", defArgs sGWholeTerm, defBody sGWholeTerm, defScope sGWholeTerm, [], []⟩
def dGTerm : He.DefD := ⟨("_law_term", none), "_law_term", "_law_term", defArgs sGTerm, defBody sGTerm, defScope sGTerm, [], []⟩
def dGNewTerm : He.DefD := ⟨("_law_new_term", none), "_law_new_term", "_law_new_term", defArgs sGNewTerm, defBody sGNewTerm, defScope sGNewTerm, [], []⟩
def dGAnyKind : He.DefD := ⟨("_law_any_kind", none), "_law_any_kind", "_law_any_kind", defArgs sGAnyKind, defBody sGAnyKind, defScope sGAnyKind, [], []⟩
def dGChannels : He.DefD := ⟨("_law_channels", none), "_law_channels", "_law_channels", defArgs sGChannels, defBody sGChannels, defScope sGChannels, [], []⟩
def dGBoxes : He.DefD := ⟨("_law_boxes", none), "_law_boxes", "_law_boxes", defArgs sGBoxes, defBody sGBoxes, defScope sGBoxes, [], []⟩
def dGInto : He.DefD := ⟨("_law_into", none), "_law_into", "_law_into", defArgs sGInto, defBody sGInto, defScope sGInto, [], []⟩
def dGDeal : He.DefD := ⟨("_law_deal", none), "_law_deal", "_law_deal", defArgs sGDeal, defBody sGDeal, defScope sGDeal, [], []⟩
def dGRows : He.DefD := ⟨("_law_rows", none), "_law_rows", "_law_rows", defArgs sGRows, defBody sGRows, defScope sGRows, [], []⟩
def dGMake : He.DefD := ⟨("_law_make", none), "_law_make", "_law_make", defArgs sGMake, defBody sGMake, defScope sGMake, [], []⟩
def dGHands : He.DefD := ⟨("_law_hands", none), "_law_hands", "_law_hands", defArgs sGHands, defBody sGHands, defScope sGHands, [], []⟩
def dGValue : He.DefD := ⟨("_law_value", none), "_law_value", "_law_value", defArgs sGValue, defBody sGValue, defScope sGValue, [], []⟩
def dGHandsOf : He.DefD := ⟨("_law_hands_of", none), "_law_hands_of", "_law_hands_of", defArgs sGHandsOf, defBody sGHandsOf, defScope sGHandsOf, [], []⟩
def dGWeaving : He.DefD := ⟨("_law_weaving", none), "_law_weaving", "_law_weaving", defArgs sGWeaving, defBody sGWeaving, defScope sGWeaving, [], []⟩
def dGState : He.DefD := ⟨("_law_state", none), "_law_state", "_law_state", defArgs sGState, defBody sGState, defScope sGState, [], []⟩
def dGPartsOf : He.DefD := ⟨("_law_parts_of", none), "_law_parts_of", "_law_parts_of", defArgs sGPartsOf, defBody sGPartsOf, defScope sGPartsOf, [], []⟩
def dGOwn : He.DefD := ⟨("_law_own", none), "_law_own", "_law_own", defArgs sGOwn, defBody sGOwn, defScope sGOwn, [], []⟩
def dGSpoil : He.DefD := ⟨("_law_spoil", none), "_law_spoil", "_law_spoil", defArgs sGSpoil, defBody sGSpoil, defScope sGSpoil, [], []⟩
def dGStill : He.DefD := ⟨("_law_still", none), "_law_still", "_law_still", defArgs sGStill, defBody sGStill, defScope sGStill, [], []⟩
def dGLoneAlike : He.DefD := ⟨("_law_lone_alike", none), "_law_lone_alike", "_law_lone_alike", defArgs sGLoneAlike, defBody sGLoneAlike, defScope sGLoneAlike, [], []⟩
def dLaw : He.DefD := ⟨("law", none), "law", "law", defArgs sLaw, defBody sLaw, defScope sLaw, [], []⟩
def fn : List He.DefD := [dPNamed, dPHandOf, dPWaysOf, dPKindTold, dPSortOf, dPPartsOf, dPNought, dPField, dPWorthOfTwo, dPWorthOfCase, dPWorth, dPFirstStand, dPCopied, dL_Init, dL_Stand, dL_Told, dL_Sent, dL_Left, dL_Count, dL_Value, dL_Step, dP_Init, dP_Share, dP_Step, dP_Stand, dP_Told, dP_Count, dP_Letters, dP_Weave, dP_Still, dPPlainAt, dGFeed, dGTake, dGNames, dGNumber, dGSortOf, dGSize, dGSmall, dGParts, dGKinds, dGBoxed, dGArms, dGWholeTerm, dGTerm, dGNewTerm, dGAnyKind, dGChannels, dGBoxes, dGInto, dGDeal, dGRows, dGMake, dGHands, dGValue, dGHandsOf, dGWeaving, dGState, dGPartsOf, dGOwn, dGSpoil, dGStill, dGLoneAlike, dLaw]
def fa : List He.Fa := [.glo "named", .glo "hand_of", .glo "ways_of", .glo "kind_told", .glo "sort_of", .glo "parts_of", .glo "nought", .glo "field", .glo "worth_of_two", .glo "worth_of_case", .glo "worth", .glo "first_stand", .glo "copied", .glo "plain_at", .glo "_law_feed", .glo "_law_take", .glo "_law_names", .glo "_law_number", .glo "_law_sort_of", .glo "_law_size", .glo "_law_small", .glo "_law_parts", .glo "_law_kinds", .glo "_law_boxed", .glo "_law_arms", .glo "_law_whole_term", .glo "_law_term", .glo "_law_new_term", .glo "_law_any_kind", .glo "_law_channels", .glo "_law_boxes", .glo "_law_into", .glo "_law_deal", .glo "_law_rows", .glo "_law_make", .glo "_law_hands", .glo "_law_value", .glo "_law_hands_of", .glo "_law_weaving", .glo "_law_state", .glo "_law_parts_of", .glo "_law_own", .glo "_law_spoil", .glo "_law_still", .glo "_law_lone_alike", .glo "law", .glo "Lone", .glo "Plain", .free "len", .free "range", .free "int", .free "max", .free "min", .free "sum", .free "dict", .free "list", .free "tuple", .free "enumerate", .int "WIDE" 4294967296, .cls "Lone", .mkr "Lone", .noat "Lone" "kinds", .noat "Lone" "rows", .noat "Lone" "leads", .noat "Lone" "at", .noat "Lone" "held", .noat "Lone" "coming", .noat "Lone" "gone", .noat "Lone" "notes", .noat "Lone" "done", .meth "Lone" "stand", .meth "Lone" "told", .meth "Lone" "sent", .meth "Lone" "left", .meth "Lone" "count", .meth "Lone" "value", .meth "Lone" "step", .cls "Plain", .mkr "Plain", .noat "Plain" "make", .noat "Plain" "hands", .noat "Plain" "lines", .meth "Plain" "share", .meth "Plain" "step", .meth "Plain" "stand", .meth "Plain" "told", .meth "Plain" "count", .meth "Plain" "letters", .meth "Plain" "weave", .meth "Plain" "still"]
/-- what the top leaves -/
structure Txt (K : PySem.W.Frag) (mg : Str → Option Value) : Prop where
  says : He.SaysD fa fn K
  at_ : ∃ h : Heap, K.In h ∧ h.Ns mainGlobals mg
abbrev LC (K : PySem.W.Frag) : Addr := He.ga K "Lone"
abbrev PC (K : PySem.W.Frag) : Addr := He.ga K "Plain"
section
variable {K : PySem.W.Frag} {mg : Str → Option Value}
theorem Txt.glo (T : Txt K mg) (i : Nat) {x : Str} (h : fa[i]? = some (.glo x) := by rfl) : mg x = some (.ref (He.ga K x)) := let ⟨_, X, G⟩ := T.at_; He.glo_ok X G (T.says.fact i h)
theorem Txt.free (T : Txt K mg) (i : Nat) {x : Str} (h : fa[i]? = some (.free x) := by rfl) : mg x = none := let ⟨_, X, G⟩ := T.at_; He.free_ok X G (T.says.fact i h)
theorem Txt.def_ (T : Txt K mg) (i : Nat) {d : He.DefD} (h : fn[i]? = some d := by rfl) : ∃ fd, FunD K d.name d.qual d.params d.body d.scope (d.dvs K) (d.kws K) (He.fAd K d.at_) fd := T.says.def_ i h
theorem Txt.glo_named (T : Txt K mg) : mg "named" = some (.ref (He.ga K "named")) := T.glo 0
theorem Txt.glo_hand_of (T : Txt K mg) : mg "hand_of" = some (.ref (He.ga K "hand_of")) := T.glo 1
theorem Txt.glo_ways_of (T : Txt K mg) : mg "ways_of" = some (.ref (He.ga K "ways_of")) := T.glo 2
theorem Txt.glo_kind_told (T : Txt K mg) : mg "kind_told" = some (.ref (He.ga K "kind_told")) := T.glo 3
theorem Txt.glo_sort_of (T : Txt K mg) : mg "sort_of" = some (.ref (He.ga K "sort_of")) := T.glo 4
theorem Txt.glo_parts_of (T : Txt K mg) : mg "parts_of" = some (.ref (He.ga K "parts_of")) := T.glo 5
theorem Txt.glo_nought (T : Txt K mg) : mg "nought" = some (.ref (He.ga K "nought")) := T.glo 6
theorem Txt.glo_field (T : Txt K mg) : mg "field" = some (.ref (He.ga K "field")) := T.glo 7
theorem Txt.glo_worth_of_two (T : Txt K mg) : mg "worth_of_two" = some (.ref (He.ga K "worth_of_two")) := T.glo 8
theorem Txt.glo_worth_of_case (T : Txt K mg) : mg "worth_of_case" = some (.ref (He.ga K "worth_of_case")) := T.glo 9
theorem Txt.glo_worth (T : Txt K mg) : mg "worth" = some (.ref (He.ga K "worth")) := T.glo 10
theorem Txt.glo_first_stand (T : Txt K mg) : mg "first_stand" = some (.ref (He.ga K "first_stand")) := T.glo 11
theorem Txt.glo_copied (T : Txt K mg) : mg "copied" = some (.ref (He.ga K "copied")) := T.glo 12
theorem Txt.glo_plain_at (T : Txt K mg) : mg "plain_at" = some (.ref (He.ga K "plain_at")) := T.glo 13
theorem Txt.glo__law_feed (T : Txt K mg) : mg "_law_feed" = some (.ref (He.ga K "_law_feed")) := T.glo 14
theorem Txt.glo__law_take (T : Txt K mg) : mg "_law_take" = some (.ref (He.ga K "_law_take")) := T.glo 15
theorem Txt.glo__law_names (T : Txt K mg) : mg "_law_names" = some (.ref (He.ga K "_law_names")) := T.glo 16
theorem Txt.glo__law_number (T : Txt K mg) : mg "_law_number" = some (.ref (He.ga K "_law_number")) := T.glo 17
theorem Txt.glo__law_sort_of (T : Txt K mg) : mg "_law_sort_of" = some (.ref (He.ga K "_law_sort_of")) := T.glo 18
theorem Txt.glo__law_size (T : Txt K mg) : mg "_law_size" = some (.ref (He.ga K "_law_size")) := T.glo 19
theorem Txt.glo__law_small (T : Txt K mg) : mg "_law_small" = some (.ref (He.ga K "_law_small")) := T.glo 20
theorem Txt.glo__law_parts (T : Txt K mg) : mg "_law_parts" = some (.ref (He.ga K "_law_parts")) := T.glo 21
theorem Txt.glo__law_kinds (T : Txt K mg) : mg "_law_kinds" = some (.ref (He.ga K "_law_kinds")) := T.glo 22
theorem Txt.glo__law_boxed (T : Txt K mg) : mg "_law_boxed" = some (.ref (He.ga K "_law_boxed")) := T.glo 23
theorem Txt.glo__law_arms (T : Txt K mg) : mg "_law_arms" = some (.ref (He.ga K "_law_arms")) := T.glo 24
theorem Txt.glo__law_whole_term (T : Txt K mg) : mg "_law_whole_term" = some (.ref (He.ga K "_law_whole_term")) := T.glo 25
theorem Txt.glo__law_term (T : Txt K mg) : mg "_law_term" = some (.ref (He.ga K "_law_term")) := T.glo 26
theorem Txt.glo__law_new_term (T : Txt K mg) : mg "_law_new_term" = some (.ref (He.ga K "_law_new_term")) := T.glo 27
theorem Txt.glo__law_any_kind (T : Txt K mg) : mg "_law_any_kind" = some (.ref (He.ga K "_law_any_kind")) := T.glo 28
theorem Txt.glo__law_channels (T : Txt K mg) : mg "_law_channels" = some (.ref (He.ga K "_law_channels")) := T.glo 29
theorem Txt.glo__law_boxes (T : Txt K mg) : mg "_law_boxes" = some (.ref (He.ga K "_law_boxes")) := T.glo 30
theorem Txt.glo__law_into (T : Txt K mg) : mg "_law_into" = some (.ref (He.ga K "_law_into")) := T.glo 31
theorem Txt.glo__law_deal (T : Txt K mg) : mg "_law_deal" = some (.ref (He.ga K "_law_deal")) := T.glo 32
theorem Txt.glo__law_rows (T : Txt K mg) : mg "_law_rows" = some (.ref (He.ga K "_law_rows")) := T.glo 33
theorem Txt.glo__law_make (T : Txt K mg) : mg "_law_make" = some (.ref (He.ga K "_law_make")) := T.glo 34
theorem Txt.glo__law_hands (T : Txt K mg) : mg "_law_hands" = some (.ref (He.ga K "_law_hands")) := T.glo 35
theorem Txt.glo__law_value (T : Txt K mg) : mg "_law_value" = some (.ref (He.ga K "_law_value")) := T.glo 36
theorem Txt.glo__law_hands_of (T : Txt K mg) : mg "_law_hands_of" = some (.ref (He.ga K "_law_hands_of")) := T.glo 37
theorem Txt.glo__law_weaving (T : Txt K mg) : mg "_law_weaving" = some (.ref (He.ga K "_law_weaving")) := T.glo 38
theorem Txt.glo__law_state (T : Txt K mg) : mg "_law_state" = some (.ref (He.ga K "_law_state")) := T.glo 39
theorem Txt.glo__law_parts_of (T : Txt K mg) : mg "_law_parts_of" = some (.ref (He.ga K "_law_parts_of")) := T.glo 40
theorem Txt.glo__law_own (T : Txt K mg) : mg "_law_own" = some (.ref (He.ga K "_law_own")) := T.glo 41
theorem Txt.glo__law_spoil (T : Txt K mg) : mg "_law_spoil" = some (.ref (He.ga K "_law_spoil")) := T.glo 42
theorem Txt.glo__law_still (T : Txt K mg) : mg "_law_still" = some (.ref (He.ga K "_law_still")) := T.glo 43
theorem Txt.glo__law_lone_alike (T : Txt K mg) : mg "_law_lone_alike" = some (.ref (He.ga K "_law_lone_alike")) := T.glo 44
theorem Txt.glo_law (T : Txt K mg) : mg "law" = some (.ref (He.ga K "law")) := T.glo 45
theorem Txt.glo_Lone (T : Txt K mg) : mg "Lone" = some (.ref (He.ga K "Lone")) := T.glo 46
theorem Txt.glo_Plain (T : Txt K mg) : mg "Plain" = some (.ref (He.ga K "Plain")) := T.glo 47
theorem Txt.free_len (T : Txt K mg) : mg "len" = none := T.free 48
theorem Txt.free_range (T : Txt K mg) : mg "range" = none := T.free 49
theorem Txt.free_int (T : Txt K mg) : mg "int" = none := T.free 50
theorem Txt.free_max (T : Txt K mg) : mg "max" = none := T.free 51
theorem Txt.free_min (T : Txt K mg) : mg "min" = none := T.free 52
theorem Txt.free_sum (T : Txt K mg) : mg "sum" = none := T.free 53
theorem Txt.free_dict (T : Txt K mg) : mg "dict" = none := T.free 54
theorem Txt.free_list (T : Txt K mg) : mg "list" = none := T.free 55
theorem Txt.free_tuple (T : Txt K mg) : mg "tuple" = none := T.free 56
theorem Txt.free_enumerate (T : Txt K mg) : mg "enumerate" = none := T.free 57
theorem Txt.wide (T : Txt K mg) : ∃ t, mg "WIDE" = some (.int 4294967296 t) := let ⟨_, X, G⟩ := T.at_; He.int_ok X G (T.says.fact 58 rfl)
theorem Txt.cls_Lone (T : Txt K mg) : Cls K (He.ga K "Lone") := He.cls_ok (T.says.fact 59 rfl)
theorem Txt.mkr_Lone (T : Txt K mg) : Mk K (He.ga K "Lone") (He.ma K (He.ga K "Lone") "__init__") := He.mkr_ok (T.says.fact 60 rfl)
theorem Txt.no_Lone_kinds (T : Txt K mg) : NoAttr K (He.ga K "Lone") "kinds" := He.noat_ok (T.says.fact 61 rfl)
theorem Txt.no_Lone_rows (T : Txt K mg) : NoAttr K (He.ga K "Lone") "rows" := He.noat_ok (T.says.fact 62 rfl)
theorem Txt.no_Lone_leads (T : Txt K mg) : NoAttr K (He.ga K "Lone") "leads" := He.noat_ok (T.says.fact 63 rfl)
theorem Txt.no_Lone_at (T : Txt K mg) : NoAttr K (He.ga K "Lone") "at" := He.noat_ok (T.says.fact 64 rfl)
theorem Txt.no_Lone_held (T : Txt K mg) : NoAttr K (He.ga K "Lone") "held" := He.noat_ok (T.says.fact 65 rfl)
theorem Txt.no_Lone_coming (T : Txt K mg) : NoAttr K (He.ga K "Lone") "coming" := He.noat_ok (T.says.fact 66 rfl)
theorem Txt.no_Lone_gone (T : Txt K mg) : NoAttr K (He.ga K "Lone") "gone" := He.noat_ok (T.says.fact 67 rfl)
theorem Txt.no_Lone_notes (T : Txt K mg) : NoAttr K (He.ga K "Lone") "notes" := He.noat_ok (T.says.fact 68 rfl)
theorem Txt.no_Lone_done (T : Txt K mg) : NoAttr K (He.ga K "Lone") "done" := He.noat_ok (T.says.fact 69 rfl)
theorem Txt.me_Lone_stand (T : Txt K mg) : Meth K (He.ga K "Lone") "stand" (He.ma K (He.ga K "Lone") "stand") := He.meth_ok (T.says.fact 70 rfl)
theorem Txt.me_Lone_told (T : Txt K mg) : Meth K (He.ga K "Lone") "told" (He.ma K (He.ga K "Lone") "told") := He.meth_ok (T.says.fact 71 rfl)
theorem Txt.me_Lone_sent (T : Txt K mg) : Meth K (He.ga K "Lone") "sent" (He.ma K (He.ga K "Lone") "sent") := He.meth_ok (T.says.fact 72 rfl)
theorem Txt.me_Lone_left (T : Txt K mg) : Meth K (He.ga K "Lone") "left" (He.ma K (He.ga K "Lone") "left") := He.meth_ok (T.says.fact 73 rfl)
theorem Txt.me_Lone_count (T : Txt K mg) : Meth K (He.ga K "Lone") "count" (He.ma K (He.ga K "Lone") "count") := He.meth_ok (T.says.fact 74 rfl)
theorem Txt.me_Lone_value (T : Txt K mg) : Meth K (He.ga K "Lone") "value" (He.ma K (He.ga K "Lone") "value") := He.meth_ok (T.says.fact 75 rfl)
theorem Txt.me_Lone_step (T : Txt K mg) : Meth K (He.ga K "Lone") "step" (He.ma K (He.ga K "Lone") "step") := He.meth_ok (T.says.fact 76 rfl)
theorem Txt.cls_Plain (T : Txt K mg) : Cls K (He.ga K "Plain") := He.cls_ok (T.says.fact 77 rfl)
theorem Txt.mkr_Plain (T : Txt K mg) : Mk K (He.ga K "Plain") (He.ma K (He.ga K "Plain") "__init__") := He.mkr_ok (T.says.fact 78 rfl)
theorem Txt.no_Plain_make (T : Txt K mg) : NoAttr K (He.ga K "Plain") "make" := He.noat_ok (T.says.fact 79 rfl)
theorem Txt.no_Plain_hands (T : Txt K mg) : NoAttr K (He.ga K "Plain") "hands" := He.noat_ok (T.says.fact 80 rfl)
theorem Txt.no_Plain_lines (T : Txt K mg) : NoAttr K (He.ga K "Plain") "lines" := He.noat_ok (T.says.fact 81 rfl)
theorem Txt.me_Plain_share (T : Txt K mg) : Meth K (He.ga K "Plain") "share" (He.ma K (He.ga K "Plain") "share") := He.meth_ok (T.says.fact 82 rfl)
theorem Txt.me_Plain_step (T : Txt K mg) : Meth K (He.ga K "Plain") "step" (He.ma K (He.ga K "Plain") "step") := He.meth_ok (T.says.fact 83 rfl)
theorem Txt.me_Plain_stand (T : Txt K mg) : Meth K (He.ga K "Plain") "stand" (He.ma K (He.ga K "Plain") "stand") := He.meth_ok (T.says.fact 84 rfl)
theorem Txt.me_Plain_told (T : Txt K mg) : Meth K (He.ga K "Plain") "told" (He.ma K (He.ga K "Plain") "told") := He.meth_ok (T.says.fact 85 rfl)
theorem Txt.me_Plain_count (T : Txt K mg) : Meth K (He.ga K "Plain") "count" (He.ma K (He.ga K "Plain") "count") := He.meth_ok (T.says.fact 86 rfl)
theorem Txt.me_Plain_letters (T : Txt K mg) : Meth K (He.ga K "Plain") "letters" (He.ma K (He.ga K "Plain") "letters") := He.meth_ok (T.says.fact 87 rfl)
theorem Txt.me_Plain_weave (T : Txt K mg) : Meth K (He.ga K "Plain") "weave" (He.ma K (He.ga K "Plain") "weave") := He.meth_ok (T.says.fact 88 rfl)
theorem Txt.me_Plain_still (T : Txt K mg) : Meth K (He.ga K "Plain") "still" (He.ma K (He.ga K "Plain") "still") := He.meth_ok (T.says.fact 89 rfl)
theorem Txt.fPNamed (T : Txt K mg) : ∃ fd, FunD K "named" "named" (defArgs sPNamed) (defBody sPNamed) (defScope sPNamed) [] [] (He.fAd K ("named", none)) fd := T.def_ 0
theorem Txt.fPHandOf (T : Txt K mg) : ∃ fd, FunD K "hand_of" "hand_of" (defArgs sPHandOf) (defBody sPHandOf) (defScope sPHandOf) [] [] (He.fAd K ("hand_of", none)) fd := T.def_ 1
theorem Txt.fPWaysOf (T : Txt K mg) : ∃ fd, FunD K "ways_of" "ways_of" (defArgs sPWaysOf) (defBody sPWaysOf) (defScope sPWaysOf) [] [] (He.fAd K ("ways_of", none)) fd := T.def_ 2
theorem Txt.fPKindTold (T : Txt K mg) : ∃ fd, FunD K "kind_told" "kind_told" (defArgs sPKindTold) (defBody sPKindTold) (defScope sPKindTold) [] [] (He.fAd K ("kind_told", none)) fd := T.def_ 3
theorem Txt.fPSortOf (T : Txt K mg) : ∃ fd, FunD K "sort_of" "sort_of" (defArgs sPSortOf) (defBody sPSortOf) (defScope sPSortOf) [] [] (He.fAd K ("sort_of", none)) fd := T.def_ 4
theorem Txt.fPPartsOf (T : Txt K mg) : ∃ fd, FunD K "parts_of" "parts_of" (defArgs sPPartsOf) (defBody sPPartsOf) (defScope sPPartsOf) [] [] (He.fAd K ("parts_of", none)) fd := T.def_ 5
theorem Txt.fPNought (T : Txt K mg) : ∃ fd, FunD K "nought" "nought" (defArgs sPNought) (defBody sPNought) (defScope sPNought) [] [] (He.fAd K ("nought", none)) fd := T.def_ 6
theorem Txt.fPField (T : Txt K mg) : ∃ fd, FunD K "field" "field" (defArgs sPField) (defBody sPField) (defScope sPField) [] [] (He.fAd K ("field", none)) fd := T.def_ 7
theorem Txt.fPWorthOfTwo (T : Txt K mg) : ∃ fd, FunD K "worth_of_two" "worth_of_two" (defArgs sPWorthOfTwo) (defBody sPWorthOfTwo) (defScope sPWorthOfTwo) [] [] (He.fAd K ("worth_of_two", none)) fd := T.def_ 8
theorem Txt.fPWorthOfCase (T : Txt K mg) : ∃ fd, FunD K "worth_of_case" "worth_of_case" (defArgs sPWorthOfCase) (defBody sPWorthOfCase) (defScope sPWorthOfCase) [] [] (He.fAd K ("worth_of_case", none)) fd := T.def_ 9
theorem Txt.fPWorth (T : Txt K mg) : ∃ fd, FunD K "worth" "worth" (defArgs sPWorth) (defBody sPWorth) (defScope sPWorth) [] [] (He.fAd K ("worth", none)) fd := T.def_ 10
theorem Txt.fPFirstStand (T : Txt K mg) : ∃ fd, FunD K "first_stand" "first_stand" (defArgs sPFirstStand) (defBody sPFirstStand) (defScope sPFirstStand) [] [] (He.fAd K ("first_stand", none)) fd := T.def_ 11
theorem Txt.fPCopied (T : Txt K mg) : ∃ fd, FunD K "copied" "copied" (defArgs sPCopied) (defBody sPCopied) (defScope sPCopied) [] [] (He.fAd K ("copied", none)) fd := T.def_ 12
theorem Txt.fL_Init (T : Txt K mg) : ∃ fd, FunD K "__init__" "Lone.__init__" (defArgs sL_Init) (defBody sL_Init) (defScope sL_Init) [.non] [] (He.fAd K ("Lone", some "__init__")) fd := T.def_ 13
theorem Txt.fL_Stand (T : Txt K mg) : ∃ fd, FunD K "stand" "Lone.stand" (defArgs sL_Stand) (defBody sL_Stand) (defScope sL_Stand) [] [] (He.fAd K ("Lone", some "stand")) fd := T.def_ 14
theorem Txt.fL_Told (T : Txt K mg) : ∃ fd, FunD K "told" "Lone.told" (defArgs sL_Told) (defBody sL_Told) (defScope sL_Told) [] [] (He.fAd K ("Lone", some "told")) fd := T.def_ 15
theorem Txt.fL_Sent (T : Txt K mg) : ∃ fd, FunD K "sent" "Lone.sent" (defArgs sL_Sent) (defBody sL_Sent) (defScope sL_Sent) [] [] (He.fAd K ("Lone", some "sent")) fd := T.def_ 16
theorem Txt.fL_Left (T : Txt K mg) : ∃ fd, FunD K "left" "Lone.left" (defArgs sL_Left) (defBody sL_Left) (defScope sL_Left) [] [] (He.fAd K ("Lone", some "left")) fd := T.def_ 17
theorem Txt.fL_Count (T : Txt K mg) : ∃ fd, FunD K "count" "Lone.count" (defArgs sL_Count) (defBody sL_Count) (defScope sL_Count) [] [] (He.fAd K ("Lone", some "count")) fd := T.def_ 18
theorem Txt.fL_Value (T : Txt K mg) : ∃ fd, FunD K "value" "Lone.value" (defArgs sL_Value) (defBody sL_Value) (defScope sL_Value) [] [] (He.fAd K ("Lone", some "value")) fd := T.def_ 19
theorem Txt.fL_Step (T : Txt K mg) : ∃ fd, FunD K "step" "Lone.step" (defArgs sL_Step) (defBody sL_Step) (defScope sL_Step) [] [] (He.fAd K ("Lone", some "step")) fd := T.def_ 20
theorem Txt.fP_Init (T : Txt K mg) : ∃ fd, FunD K "__init__" "Plain.__init__" (defArgs sP_Init) (defBody sP_Init) (defScope sP_Init) [] [] (He.fAd K ("Plain", some "__init__")) fd := T.def_ 21
theorem Txt.fP_Share (T : Txt K mg) : ∃ fd, FunD K "share" "Plain.share" (defArgs sP_Share) (defBody sP_Share) (defScope sP_Share) [] [] (He.fAd K ("Plain", some "share")) fd := T.def_ 22
theorem Txt.fP_Step (T : Txt K mg) : ∃ fd, FunD K "step" "Plain.step" (defArgs sP_Step) (defBody sP_Step) (defScope sP_Step) [] [] (He.fAd K ("Plain", some "step")) fd := T.def_ 23
theorem Txt.fP_Stand (T : Txt K mg) : ∃ fd, FunD K "stand" "Plain.stand" (defArgs sP_Stand) (defBody sP_Stand) (defScope sP_Stand) [] [] (He.fAd K ("Plain", some "stand")) fd := T.def_ 24
theorem Txt.fP_Told (T : Txt K mg) : ∃ fd, FunD K "told" "Plain.told" (defArgs sP_Told) (defBody sP_Told) (defScope sP_Told) [] [] (He.fAd K ("Plain", some "told")) fd := T.def_ 25
theorem Txt.fP_Count (T : Txt K mg) : ∃ fd, FunD K "count" "Plain.count" (defArgs sP_Count) (defBody sP_Count) (defScope sP_Count) [] [] (He.fAd K ("Plain", some "count")) fd := T.def_ 26
theorem Txt.fP_Letters (T : Txt K mg) : ∃ fd, FunD K "letters" "Plain.letters" (defArgs sP_Letters) (defBody sP_Letters) (defScope sP_Letters) [] [] (He.fAd K ("Plain", some "letters")) fd := T.def_ 27
theorem Txt.fP_Weave (T : Txt K mg) : ∃ fd, FunD K "weave" "Plain.weave" (defArgs sP_Weave) (defBody sP_Weave) (defScope sP_Weave) [] [] (He.fAd K ("Plain", some "weave")) fd := T.def_ 28
theorem Txt.fP_Still (T : Txt K mg) : ∃ fd, FunD K "still" "Plain.still" (defArgs sP_Still) (defBody sP_Still) (defScope sP_Still) [] [] (He.fAd K ("Plain", some "still")) fd := T.def_ 29
theorem Txt.fPPlainAt (T : Txt K mg) : ∃ fd, FunD K "plain_at" "plain_at" (defArgs sPPlainAt) (defBody sPPlainAt) (defScope sPPlainAt) [] [] (He.fAd K ("plain_at", none)) fd := T.def_ 30
theorem Txt.fGFeed (T : Txt K mg) : ∃ fd, FunD K "_law_feed" "_law_feed" (defArgs sGFeed) (defBody sGFeed) (defScope sGFeed) [] [] (He.fAd K ("_law_feed", none)) fd := T.def_ 31
theorem Txt.fGTake (T : Txt K mg) : ∃ fd, FunD K "_law_take" "_law_take" (defArgs sGTake) (defBody sGTake) (defScope sGTake) [] [] (He.fAd K ("_law_take", none)) fd := T.def_ 32
theorem Txt.fGNames (T : Txt K mg) : ∃ fd, FunD K "_law_names" "_law_names" (defArgs sGNames) (defBody sGNames) (defScope sGNames) [] [] (He.fAd K ("_law_names", none)) fd := T.def_ 33
theorem Txt.fGNumber (T : Txt K mg) : ∃ fd, FunD K "_law_number" "_law_number" (defArgs sGNumber) (defBody sGNumber) (defScope sGNumber) [] [] (He.fAd K ("_law_number", none)) fd := T.def_ 34
theorem Txt.fGSortOf (T : Txt K mg) : ∃ fd, FunD K "_law_sort_of" "_law_sort_of" (defArgs sGSortOf) (defBody sGSortOf) (defScope sGSortOf) [] [] (He.fAd K ("_law_sort_of", none)) fd := T.def_ 35
theorem Txt.fGSize (T : Txt K mg) : ∃ fd, FunD K "_law_size" "_law_size" (defArgs sGSize) (defBody sGSize) (defScope sGSize) [] [] (He.fAd K ("_law_size", none)) fd := T.def_ 36
theorem Txt.fGSmall (T : Txt K mg) : ∃ fd, FunD K "_law_small" "_law_small" (defArgs sGSmall) (defBody sGSmall) (defScope sGSmall) [] [] (He.fAd K ("_law_small", none)) fd := T.def_ 37
theorem Txt.fGParts (T : Txt K mg) : ∃ fd, FunD K "_law_parts" "_law_parts" (defArgs sGParts) (defBody sGParts) (defScope sGParts) [] [] (He.fAd K ("_law_parts", none)) fd := T.def_ 38
theorem Txt.fGKinds (T : Txt K mg) : ∃ fd, FunD K "_law_kinds" "_law_kinds" (defArgs sGKinds) (defBody sGKinds) (defScope sGKinds) [] [] (He.fAd K ("_law_kinds", none)) fd := T.def_ 39
theorem Txt.fGBoxed (T : Txt K mg) : ∃ fd, FunD K "_law_boxed" "_law_boxed" (defArgs sGBoxed) (defBody sGBoxed) (defScope sGBoxed) [] [] (He.fAd K ("_law_boxed", none)) fd := T.def_ 40
theorem Txt.fGArms (T : Txt K mg) : ∃ fd, FunD K "_law_arms" "_law_arms" (defArgs sGArms) (defBody sGArms) (defScope sGArms) [] [] (He.fAd K ("_law_arms", none)) fd := T.def_ 41
theorem Txt.fGWholeTerm (T : Txt K mg) : ∃ fd, FunD K "_law_whole_term" "_law_whole_term" (defArgs sGWholeTerm) (defBody sGWholeTerm) (defScope sGWholeTerm) [] [] (He.fAd K ("_law_whole_term", none)) fd := T.def_ 42
theorem Txt.fGTerm (T : Txt K mg) : ∃ fd, FunD K "_law_term" "_law_term" (defArgs sGTerm) (defBody sGTerm) (defScope sGTerm) [] [] (He.fAd K ("_law_term", none)) fd := T.def_ 43
theorem Txt.fGNewTerm (T : Txt K mg) : ∃ fd, FunD K "_law_new_term" "_law_new_term" (defArgs sGNewTerm) (defBody sGNewTerm) (defScope sGNewTerm) [] [] (He.fAd K ("_law_new_term", none)) fd := T.def_ 44
theorem Txt.fGAnyKind (T : Txt K mg) : ∃ fd, FunD K "_law_any_kind" "_law_any_kind" (defArgs sGAnyKind) (defBody sGAnyKind) (defScope sGAnyKind) [] [] (He.fAd K ("_law_any_kind", none)) fd := T.def_ 45
theorem Txt.fGChannels (T : Txt K mg) : ∃ fd, FunD K "_law_channels" "_law_channels" (defArgs sGChannels) (defBody sGChannels) (defScope sGChannels) [] [] (He.fAd K ("_law_channels", none)) fd := T.def_ 46
theorem Txt.fGBoxes (T : Txt K mg) : ∃ fd, FunD K "_law_boxes" "_law_boxes" (defArgs sGBoxes) (defBody sGBoxes) (defScope sGBoxes) [] [] (He.fAd K ("_law_boxes", none)) fd := T.def_ 47
theorem Txt.fGInto (T : Txt K mg) : ∃ fd, FunD K "_law_into" "_law_into" (defArgs sGInto) (defBody sGInto) (defScope sGInto) [] [] (He.fAd K ("_law_into", none)) fd := T.def_ 48
theorem Txt.fGDeal (T : Txt K mg) : ∃ fd, FunD K "_law_deal" "_law_deal" (defArgs sGDeal) (defBody sGDeal) (defScope sGDeal) [] [] (He.fAd K ("_law_deal", none)) fd := T.def_ 49
theorem Txt.fGRows (T : Txt K mg) : ∃ fd, FunD K "_law_rows" "_law_rows" (defArgs sGRows) (defBody sGRows) (defScope sGRows) [] [] (He.fAd K ("_law_rows", none)) fd := T.def_ 50
theorem Txt.fGMake (T : Txt K mg) : ∃ fd, FunD K "_law_make" "_law_make" (defArgs sGMake) (defBody sGMake) (defScope sGMake) [] [] (He.fAd K ("_law_make", none)) fd := T.def_ 51
theorem Txt.fGHands (T : Txt K mg) : ∃ fd, FunD K "_law_hands" "_law_hands" (defArgs sGHands) (defBody sGHands) (defScope sGHands) [] [] (He.fAd K ("_law_hands", none)) fd := T.def_ 52
theorem Txt.fGValue (T : Txt K mg) : ∃ fd, FunD K "_law_value" "_law_value" (defArgs sGValue) (defBody sGValue) (defScope sGValue) [] [] (He.fAd K ("_law_value", none)) fd := T.def_ 53
theorem Txt.fGHandsOf (T : Txt K mg) : ∃ fd, FunD K "_law_hands_of" "_law_hands_of" (defArgs sGHandsOf) (defBody sGHandsOf) (defScope sGHandsOf) [] [] (He.fAd K ("_law_hands_of", none)) fd := T.def_ 54
theorem Txt.fGWeaving (T : Txt K mg) : ∃ fd, FunD K "_law_weaving" "_law_weaving" (defArgs sGWeaving) (defBody sGWeaving) (defScope sGWeaving) [] [] (He.fAd K ("_law_weaving", none)) fd := T.def_ 55
theorem Txt.fGState (T : Txt K mg) : ∃ fd, FunD K "_law_state" "_law_state" (defArgs sGState) (defBody sGState) (defScope sGState) [] [] (He.fAd K ("_law_state", none)) fd := T.def_ 56
theorem Txt.fGPartsOf (T : Txt K mg) : ∃ fd, FunD K "_law_parts_of" "_law_parts_of" (defArgs sGPartsOf) (defBody sGPartsOf) (defScope sGPartsOf) [] [] (He.fAd K ("_law_parts_of", none)) fd := T.def_ 57
theorem Txt.fGOwn (T : Txt K mg) : ∃ fd, FunD K "_law_own" "_law_own" (defArgs sGOwn) (defBody sGOwn) (defScope sGOwn) [] [] (He.fAd K ("_law_own", none)) fd := T.def_ 58
theorem Txt.fGSpoil (T : Txt K mg) : ∃ fd, FunD K "_law_spoil" "_law_spoil" (defArgs sGSpoil) (defBody sGSpoil) (defScope sGSpoil) [] [] (He.fAd K ("_law_spoil", none)) fd := T.def_ 59
theorem Txt.fGStill (T : Txt K mg) : ∃ fd, FunD K "_law_still" "_law_still" (defArgs sGStill) (defBody sGStill) (defScope sGStill) [] [] (He.fAd K ("_law_still", none)) fd := T.def_ 60
theorem Txt.fGLoneAlike (T : Txt K mg) : ∃ fd, FunD K "_law_lone_alike" "_law_lone_alike" (defArgs sGLoneAlike) (defBody sGLoneAlike) (defScope sGLoneAlike) [] [] (He.fAd K ("_law_lone_alike", none)) fd := T.def_ 61
theorem Txt.fLaw (T : Txt K mg) : ∃ fd, FunD K "law" "law" (defArgs sLaw) (defBody sLaw) (defScope sLaw) [] [] (He.fAd K ("law", none)) fd := T.def_ 62
end
abbrev nPNamed : List Str := ["some", "name", "one"]
abbrev pPNamed : List Str := ["some", "name"]
theorem scPNamed : FnScope nPNamed pPNamed (defScope sPNamed) := C8.fnScope_by (by decide +kernel)
abbrev nPHandOf : List Str := ["make", "h"]
abbrev pPHandOf : List Str := ["make", "h"]
theorem scPHandOf : FnScope nPHandOf pPHandOf (defScope sPHandOf) := C8.fnScope_by (by decide +kernel)
abbrev nPWaysOf : List Str := ["rows", "found", "k", "row"]
abbrev pPWaysOf : List Str := ["rows"]
theorem scPWaysOf : FnScope nPWaysOf pPWaysOf (defScope sPWaysOf) := C8.fnScope_by (by decide +kernel)
abbrev nPKindTold : List Str := ["kinds", "name", "told"]
abbrev pPKindTold : List Str := ["kinds", "name"]
theorem scPKindTold : FnScope nPKindTold pPKindTold (defScope sPKindTold) := C8.fnScope_by (by decide +kernel)
abbrev nPSortOf : List Str := ["kinds", "name", "told"]
abbrev pPSortOf : List Str := ["kinds", "name"]
theorem scPSortOf : FnScope nPSortOf pPSortOf (defScope sPSortOf) := C8.fnScope_by (by decide +kernel)
abbrev nPPartsOf : List Str := ["kinds", "name"]
abbrev pPPartsOf : List Str := ["kinds", "name"]
theorem scPPartsOf : FnScope nPPartsOf pPPartsOf (defScope sPPartsOf) := C8.fnScope_by (by decide +kernel)
abbrev nPNought : List Str := ["kinds", "kind", "parts", "part"]
abbrev pPNought : List Str := ["kinds", "kind"]
theorem scPNought : FnScope nPNought pPNought (defScope sPNought) := C8.fnScope_by (by decide +kernel)
abbrev nPField : List Str := ["kinds", "value", "name", "names", "part"]
abbrev pPField : List Str := ["kinds", "value", "name"]
theorem scPField : FnScope nPField pPField (defScope sPField) := C8.fnScope_by (by decide +kernel)
abbrev nPWorthOfTwo : List Str := ["sign", "one", "other"]
abbrev pPWorthOfTwo : List Str := ["sign", "one", "other"]
theorem scPWorthOfTwo : FnScope nPWorthOfTwo pPWorthOfTwo (defScope sPWorthOfTwo) := C8.fnScope_by (by decide +kernel)
abbrev nPWorthOfCase : List Str := ["kinds", "term", "boxes", "kind", "tag", "value", "name", "x", "one", "inner"]
abbrev pPWorthOfCase : List Str := ["kinds", "term", "boxes"]
theorem scPWorthOfCase : FnScope nPWorthOfCase pPWorthOfCase (defScope sPWorthOfCase) := C8.fnScope_by (by decide +kernel)
abbrev nPWorth : List Str := ["kinds", "term", "boxes", "word", "one"]
abbrev pPWorth : List Str := ["kinds", "term", "boxes"]
theorem scPWorth : FnScope nPWorth pPWorth (defScope sPWorth) := C8.fnScope_by (by decide +kernel)
abbrev nPFirstStand : List Str := ["make", "h", "boxes", "x", "kind"]
abbrev pPFirstStand : List Str := ["make", "h"]
theorem scPFirstStand : FnScope nPFirstStand pPFirstStand (defScope sPFirstStand) := C8.fnScope_by (by decide +kernel)
abbrev nPCopied : List Str := ["lines", "found", "c", "some"]
abbrev pPCopied : List Str := ["lines"]
theorem scPCopied : FnScope nPCopied pPCopied (defScope sPCopied) := C8.fnScope_by (by decide +kernel)
abbrev nL_Init : List Str := ["self", "make", "h", "letters", "stand", "c", "come", "to", "kind"]
abbrev pL_Init : List Str := ["self", "make", "h", "letters", "stand"]
theorem scL_Init : FnScope nL_Init pL_Init (defScope sL_Init) := C8.fnScope_by (by decide +kernel)
abbrev nL_Stand : List Str := ["self"]
abbrev pL_Stand : List Str := ["self"]
theorem scL_Stand : FnScope nL_Stand pL_Stand (defScope sL_Stand) := C8.fnScope_by (by decide +kernel)
abbrev nL_Told : List Str := ["self"]
abbrev pL_Told : List Str := ["self"]
theorem scL_Told : FnScope nL_Told pL_Told (defScope sL_Told) := C8.fnScope_by (by decide +kernel)
abbrev nL_Sent : List Str := ["self"]
abbrev pL_Sent : List Str := ["self"]
theorem scL_Sent : FnScope nL_Sent pL_Sent (defScope sL_Sent) := C8.fnScope_by (by decide +kernel)
abbrev nL_Left : List Str := ["self"]
abbrev pL_Left : List Str := ["self"]
theorem scL_Left : FnScope nL_Left pL_Left (defScope sL_Left) := C8.fnScope_by (by decide +kernel)
abbrev nL_Count : List Str := ["self"]
abbrev pL_Count : List Str := ["self"]
theorem scL_Count : FnScope nL_Count pL_Count (defScope sL_Count) := C8.fnScope_by (by decide +kernel)
abbrev nL_Value : List Str := ["self", "term"]
abbrev pL_Value : List Str := ["self", "term"]
theorem scL_Value : FnScope nL_Value pL_Value (defScope sL_Value) := C8.fnScope_by (by decide +kernel)
abbrev nL_Step : List Str := ["self", "row", "way"]
abbrev pL_Step : List Str := ["self"]
theorem scL_Step : FnScope nL_Step pL_Step (defScope sL_Step) := C8.fnScope_by (by decide +kernel)
abbrev nP_Init : List Str := ["self", "make", "h", "boxes", "rows"]
abbrev pP_Init : List Str := ["self", "make"]
theorem scP_Init : FnScope nP_Init pP_Init (defScope sP_Init) := C8.fnScope_by (by decide +kernel)
abbrev nP_Share : List Str := ["self", "c", "come", "to", "kind", "line"]
abbrev pP_Share : List Str := ["self"]
theorem scP_Share : FnScope nP_Share pP_Share (defScope sP_Share) := C8.fnScope_by (by decide +kernel)
abbrev nP_Step : List Str := ["self", "h"]
abbrev pP_Step : List Str := ["self", "h"]
theorem scP_Step : FnScope nP_Step pP_Step (defScope sP_Step) := C8.fnScope_by (by decide +kernel)
abbrev nP_Stand : List Str := ["self", "h"]
abbrev pP_Stand : List Str := ["self", "h"]
theorem scP_Stand : FnScope nP_Stand pP_Stand (defScope sP_Stand) := C8.fnScope_by (by decide +kernel)
abbrev nP_Told : List Str := ["self", "h"]
abbrev pP_Told : List Str := ["self", "h"]
theorem scP_Told : FnScope nP_Told pP_Told (defScope sP_Told) := C8.fnScope_by (by decide +kernel)
abbrev nP_Count : List Str := ["self", "h"]
abbrev pP_Count : List Str := ["self", "h"]
theorem scP_Count : FnScope nP_Count pP_Count (defScope sP_Count) := C8.fnScope_by (by decide +kernel)
abbrev nP_Letters : List Str := ["self", "c"]
abbrev pP_Letters : List Str := ["self", "c"]
theorem scP_Letters : FnScope nP_Letters pP_Letters (defScope sP_Letters) := C8.fnScope_by (by decide +kernel)
abbrev nP_Weave : List Str := ["self", "hands", "h"]
abbrev pP_Weave : List Str := ["self", "hands"]
theorem scP_Weave : FnScope nP_Weave pP_Weave (defScope sP_Weave) := C8.fnScope_by (by decide +kernel)
abbrev nP_Still : List Str := ["self", "hand", "row"]
abbrev pP_Still : List Str := ["self"]
theorem scP_Still : FnScope nP_Still pP_Still (defScope sP_Still) := C8.fnScope_by (by decide +kernel)
abbrev nPPlainAt : List Str := ["make", "stands", "letters", "told", "counts", "house", "h", "boxes", "rows", "hand", "c"]
abbrev pPPlainAt : List Str := ["make", "stands", "letters", "told", "counts"]
theorem scPPlainAt : FnScope nPPlainAt pPPlainAt (defScope sPPlainAt) := C8.fnScope_by (by decide +kernel)
abbrev nGFeed : List Str := ["_law_script", "_law_k", "_law_cell"]
abbrev pGFeed : List Str := ["_law_script", "_law_k"]
theorem scGFeed : FnScope nGFeed pGFeed (defScope sGFeed) := C8.fnScope_by (by decide +kernel)
abbrev nGTake : List Str := ["_law_feed_here", "_law_many", "_law_digit", "_law_one"]
abbrev pGTake : List Str := ["_law_feed_here", "_law_many"]
theorem scGTake : FnScope nGTake pGTake (defScope sGTake) := C8.fnScope_by (by decide +kernel)
abbrev nGNames : List Str := ["_law_cell", "_law_many", "_law_letters", "_law_size_here", "_law_at", "_law_common", "_law_found", "_law_k", "_law_j"]
abbrev pGNames : List Str := ["_law_cell", "_law_many"]
theorem scGNames : FnScope nGNames pGNames (defScope sGNames) := C8.fnScope_by (by decide +kernel)
abbrev nGNumber : List Str := ["_law_feed_here", "_law_form"]
abbrev pGNumber : List Str := ["_law_feed_here"]
theorem scGNumber : FnScope nGNumber pGNumber (defScope sGNumber) := C8.fnScope_by (by decide +kernel)
abbrev nGSortOf : List Str := ["_law_kinds_here", "_law_kind", "_law_name", "_law_sort", "_law_parts_here"]
abbrev pGSortOf : List Str := ["_law_kinds_here", "_law_kind"]
theorem scGSortOf : FnScope nGSortOf pGSortOf (defScope sGSortOf) := C8.fnScope_by (by decide +kernel)
abbrev nGSize : List Str := ["_law_kinds_here", "_law_kind", "_law_sort", "_law_parts_here", "_law_sizes", "_law_name", "_law_part"]
abbrev pGSize : List Str := ["_law_kinds_here", "_law_kind"]
theorem scGSize : FnScope nGSize pGSize (defScope sGSize) := C8.fnScope_by (by decide +kernel)
abbrev nGSmall : List Str := ["_law_kinds_here", "_law_kind", "_law_sort", "_law_parts_here", "_law_name", "_law_part"]
abbrev pGSmall : List Str := ["_law_kinds_here", "_law_kind"]
theorem scGSmall : FnScope nGSmall pGSmall (defScope sGSmall) := C8.fnScope_by (by decide +kernel)
abbrev nGParts : List Str := ["_law_feed_here", "_law_kinds_here", "_law_sort", "_law_names_here", "_law_parts_here", "_law_left", "_law_j", "_law_kind", "_law_row"]
abbrev pGParts : List Str := ["_law_feed_here", "_law_kinds_here", "_law_sort", "_law_names_here"]
theorem scGParts : FnScope nGParts pGParts (defScope sGParts) := C8.fnScope_by (by decide +kernel)
abbrev nGKinds : List Str := ["_law_feed_here", "_law_names_here", "_law_kinds_here", "_law_k", "_law_sort"]
abbrev pGKinds : List Str := ["_law_feed_here", "_law_names_here"]
theorem scGKinds : FnScope nGKinds pGKinds (defScope sGKinds) := C8.fnScope_by (by decide +kernel)
abbrev nGBoxed : List Str := ["_law_feed_here", "_law_some"]
abbrev pGBoxed : List Str := ["_law_feed_here", "_law_some"]
theorem scGBoxed : FnScope nGBoxed pGBoxed (defScope sGBoxed) := C8.fnScope_by (by decide +kernel)
abbrev nGArms : List Str := ["_law_feed_here", "_law_kinds_here", "_law_boxes_here", "_law_parts_here", "_law_kind", "_law_room", "_law_deep", "_law_arms_here", "_law_each", "_law_t", "_law_part", "_law_x"]
abbrev pGArms : List Str := ["_law_feed_here", "_law_kinds_here", "_law_boxes_here", "_law_parts_here", "_law_kind", "_law_room", "_law_deep"]
theorem scGArms : FnScope nGArms pGArms (defScope sGArms) := C8.fnScope_by (by decide +kernel)
abbrev nGWholeTerm : List Str := ["_law_feed_here", "_law_kinds_here", "_law_boxes_here", "_law_kind", "_law_room", "_law_deep", "_law_sort", "_law_parts_here", "_law_one", "_law_other", "_law_some", "_law_t", "_law_part", "_law_more", "_law_terms", "_law_f"]
abbrev pGWholeTerm : List Str := ["_law_feed_here", "_law_kinds_here", "_law_boxes_here", "_law_kind", "_law_room", "_law_deep"]
theorem scGWholeTerm : FnScope nGWholeTerm pGWholeTerm (defScope sGWholeTerm) := C8.fnScope_by (by decide +kernel)
abbrev nGTerm : List Str := ["_law_feed_here", "_law_kinds_here", "_law_boxes_here", "_law_kind", "_law_room", "_law_deep", "_law_some", "_law_form", "_law_small_here", "_law_more", "_law_one", "_law_first", "_law_held", "_law_x", "_law_told", "_law_sort", "_law_parts_here", "_law_f", "_law_tags", "_law_part"]
abbrev pGTerm : List Str := ["_law_feed_here", "_law_kinds_here", "_law_boxes_here", "_law_kind", "_law_room", "_law_deep"]
theorem scGTerm : FnScope nGTerm pGTerm (defScope sGTerm) := C8.fnScope_by (by decide +kernel)
abbrev nGNewTerm : List Str := ["_law_feed_here", "_law_kinds_here", "_law_boxes_here", "_law_kind"]
abbrev pGNewTerm : List Str := ["_law_feed_here", "_law_kinds_here", "_law_boxes_here", "_law_kind"]
theorem scGNewTerm : FnScope nGNewTerm pGNewTerm (defScope sGNewTerm) := C8.fnScope_by (by decide +kernel)
abbrev nGAnyKind : List Str := ["_law_feed_here", "_law_kinds_here", "_law_row"]
abbrev pGAnyKind : List Str := ["_law_feed_here", "_law_kinds_here"]
theorem scGAnyKind : FnScope nGAnyKind pGAnyKind (defScope sGAnyKind) := C8.fnScope_by (by decide +kernel)
abbrev nGChannels : List Str := ["_law_feed_here", "_law_kinds_here", "_law_names_here", "_law_hands_here", "_law_found", "_law_turn", "_law_k", "_law_ends"]
abbrev pGChannels : List Str := ["_law_feed_here", "_law_kinds_here", "_law_names_here", "_law_hands_here"]
theorem scGChannels : FnScope nGChannels pGChannels (defScope sGChannels) := C8.fnScope_by (by decide +kernel)
abbrev nGBoxes : List Str := ["_law_feed_here", "_law_kinds_here", "_law_channels_here", "_law_h", "_law_names_here", "_law_wants", "_law_c", "_law_come", "_law_to", "_law_kind", "_law_k", "_law_turn"]
abbrev pGBoxes : List Str := ["_law_feed_here", "_law_kinds_here", "_law_channels_here", "_law_h", "_law_names_here"]
theorem scGBoxes : FnScope nGBoxes pGBoxes (defScope sGBoxes) := C8.fnScope_by (by decide +kernel)
abbrev nGInto : List Str := ["_law_channels_here", "_law_h", "_law_boxes_here", "_law_found", "_law_c", "_law_come", "_law_to", "_law_kind", "_law_x", "_law_told"]
abbrev pGInto : List Str := ["_law_channels_here", "_law_h", "_law_boxes_here"]
theorem scGInto : FnScope nGInto pGInto (defScope sGInto) := C8.fnScope_by (by decide +kernel)
abbrev nGDeal : List Str := ["_law_feed_here", "_law_kinds_here", "_law_channels_here", "_law_h", "_law_boxes_here", "_law_marks", "_law_form", "_law_into_here", "_law_out", "_law_c", "_law_x", "_law_kind", "_law_come", "_law_to"]
abbrev pGDeal : List Str := ["_law_feed_here", "_law_kinds_here", "_law_channels_here", "_law_h", "_law_boxes_here", "_law_marks"]
theorem scGDeal : FnScope nGDeal pGDeal (defScope sGDeal) := C8.fnScope_by (by decide +kernel)
abbrev nGRows : List Str := ["_law_feed_here", "_law_kinds_here", "_law_channels_here", "_law_h", "_law_boxes_here", "_law_names_here", "_law_marks", "_law_rows_here", "_law_many", "_law_at", "_law_form", "_law_test", "_law_into_here", "_law_c", "_law_x", "_law_row"]
abbrev pGRows : List Str := ["_law_feed_here", "_law_kinds_here", "_law_channels_here", "_law_h", "_law_boxes_here", "_law_names_here"]
theorem scGRows : FnScope nGRows pGRows (defScope sGRows) := C8.fnScope_by (by decide +kernel)
abbrev nGMake : List Str := ["_law_script", "_law_at", "_law_names_here", "_law_kinds_here", "_law_feed_here", "_law_hands_here"]
abbrev pGMake : List Str := ["_law_script", "_law_at", "_law_names_here"]
theorem scGMake : FnScope nGMake pGMake (defScope sGMake) := C8.fnScope_by (by decide +kernel)
abbrev nGHands : List Str := ["_law_script", "_law_at", "_law_kinds_here", "_law_channels_here", "_law_many", "_law_names_here", "_law_found", "_law_k", "_law_feed_here", "_law_boxes_here"]
abbrev pGHands : List Str := ["_law_script", "_law_at", "_law_kinds_here", "_law_channels_here", "_law_many", "_law_names_here"]
theorem scGHands : FnScope nGHands pGHands (defScope sGHands) := C8.fnScope_by (by decide +kernel)
abbrev nGValue : List Str := ["_law_feed_here", "_law_kinds_here", "_law_kind", "_law_sort", "_law_parts_here", "_law_t", "_law_part", "_law_name"]
abbrev pGValue : List Str := ["_law_feed_here", "_law_kinds_here", "_law_kind"]
theorem scGValue : FnScope nGValue pGValue (defScope sGValue) := C8.fnScope_by (by decide +kernel)
abbrev nGHandsOf : List Str := ["_law_make_here", "_law_hand"]
abbrev pGHandsOf : List Str := ["_law_make_here"]
theorem scGHandsOf : FnScope nGHandsOf pGHandsOf (defScope sGHandsOf) := C8.fnScope_by (by decide +kernel)
abbrev nGWeaving : List Str := ["_law_script", "_law_at", "_law_make_here", "_law_found", "_law_k", "_law_feed_here", "_law_j"]
abbrev pGWeaving : List Str := ["_law_script", "_law_at", "_law_make_here"]
theorem scGWeaving : FnScope nGWeaving pGWeaving (defScope sGWeaving) := C8.fnScope_by (by decide +kernel)
abbrev nGState : List Str := ["_law_house", "_law_make_here", "_law_found", "_law_h", "_law_channel"]
abbrev pGState : List Str := ["_law_house", "_law_make_here"]
theorem scGState : FnScope nGState pGState (defScope sGState) := C8.fnScope_by (by decide +kernel)
abbrev nGPartsOf : List Str := ["_law_house", "_law_make_here", "_law_found", "_law_h", "_law_channel"]
abbrev pGPartsOf : List Str := ["_law_house", "_law_make_here"]
theorem scGPartsOf : FnScope nGPartsOf pGPartsOf (defScope sGPartsOf) := C8.fnScope_by (by decide +kernel)
abbrev nGOwn : List Str := ["_law_feed_here", "_law_make_here", "_law_found", "_law_h", "_law_boxes_here", "_law_rows_here", "_law_held", "_law_x", "_law_kind", "_law_c", "_law_come", "_law_to", "_law_k"]
abbrev pGOwn : List Str := ["_law_feed_here", "_law_make_here"]
theorem scGOwn : FnScope nGOwn pGOwn (defScope sGOwn) := C8.fnScope_by (by decide +kernel)
abbrev nGSpoil : List Str := ["_law_parts_here", "_law_h", "_law_c", "_law_part"]
abbrev pGSpoil : List Str := ["_law_parts_here"]
theorem scGSpoil : FnScope nGSpoil pGSpoil (defScope sGSpoil) := C8.fnScope_by (by decide +kernel)
abbrev nGStill : List Str := ["_law_house", "_law_make_here", "_law_h", "_law_boxes_here", "_law_rows_here", "_law_row"]
abbrev pGStill : List Str := ["_law_house", "_law_make_here"]
theorem scGStill : FnScope nGStill pGStill (defScope sGStill) := C8.fnScope_by (by decide +kernel)
abbrev nGLoneAlike : List Str := ["_law_make_here", "_law_feed_here", "_law_parts_here", "_law_alone", "_law_free", "_law_h", "_law_house", "_law_letters", "_law_c", "_law_come", "_law_to", "_law_kind", "_law_lone", "_law_told", "_law_k", "_law_channel", "_law_hand"]
abbrev pGLoneAlike : List Str := ["_law_make_here", "_law_feed_here"]
theorem scGLoneAlike : FnScope nGLoneAlike pGLoneAlike (defScope sGLoneAlike) := C8.fnScope_by (by decide +kernel)
abbrev nLaw : List Str := ["_law_script", "_law_names_here", "_law_make_here", "_law_first", "_law_weaving_here", "_law_due", "_law_parts_here", "_law_handed", "_law_second", "_law_h"]
abbrev pLaw : List Str := ["_law_script"]
theorem scLaw : FnScope nLaw pLaw (defScope sLaw) := C8.fnScope_by (by decide +kernel)
end Sw
set_option Elab.async false
set_option linter.all false
set_option maxRecDepth 100000
set_option maxHeartbeats 4000000
/-! Rules of our own: == and != of equal things at any depth (tuples, lists, dicts), lists against [], enumerate over a tuple, text times 0 or 1. -/
namespace Sw
open PySem PySem.Spec PyProof.Rows L2 PySem.SeqAt
open AutoSeq1 (wpAny_loadPart')
open MeetsSeq MeetsSeq2 MeetsSeq3 SeqRoads2
section
variable {prog : Program} {w : World}
/-- equal items, one list: the loop behind == (op 2) and != (op 3) -/
theorem eqLoop (l b : Addr) (xs ys : Array Value) (n n2 : Nat) (dd dd2 : Option Addr) (sl sl2 : Array (Option Value)) (hsz : xs.size = ys.size) (op : Int) (hop : op = 3) (k : Nat) :
    ∀ i : Nat, xs.size - i = k → MeetsIn prog w (Builtin.«list.__eq__.loop» ⟨[.ref l, .ref b, rawInt i, rawInt 3], []⟩)
      (fun A R s => s.heap.get? l = some { cls := .type "list", dict := dd, data := .seq xs n, slots := sl } ∧ s.heap.get? b = some { cls := .type "list", dict := dd2, data := .seq ys n2, slots := sl2 } ∧
        (∀ j (h1 : j < xs.size) (h2 : j < ys.size), EqP prog w A.in1 s xs[j] ys[j] true) ∧ R (.ok (.ret (.bool false))) s) := by
  induction k with
  | zero =>
    intro i hk A R s h
    obtain ⟨hp, g, d, tk, os⟩ := s
    obtain ⟨hl, hb, he, h⟩ := h
    wp_walk using wpAny_loadPart' hl, wpAny_loadPart' hb
    have a1 : xs[((i : Nat) : Int).toNat]? = none := by simp; omega
    have a2 : ys[((i : Nat) : Int).toNat]? = none := by simp; omega
    rw [a1, a2]
    wp_walk using wpAny_loadPart' hl, wpAny_loadPart' hb
    show R (.ok (.ret (.bool (xs.size != ys.size)))) _
    rw [hsz]
    simpa using h
  | succ k ih =>
    intro i hk A R s h
    obtain ⟨hp, g, d, tk, os⟩ := s
    obtain ⟨hl, hb, he, h⟩ := h
    wp_walk using wpAny_loadPart' hl, wpAny_loadPart' hb
    have b1 : i < xs.size := by omega
    have b2 : i < ys.size := by omega
    have a1 : xs[((i : Nat) : Int).toNat]? = some xs[i] := by simp [b1]
    have a2 : ys[((i : Nat) : Int).toNat]? = some ys[i] := by simp [b2]
    have c1 : ((i : Int) + 1) = ((i + 1 : Nat) : Int) := by push_cast; rfl
    rw [a1, a2]
    refine wpAny_bind (he i b1 b2 _ _ ?_)
    wp_walk
    rw [c1]
    exact ⟨plainId_quiet plain_eq_loop _, codeAny_builtin entry_eq_loop (by
      rw [Around.under_plainId plain_eq_loop _]
      exact ih (i + 1) (by omega) A R _ ⟨hl, hb, he, h⟩)⟩
theorem neLists (l b : Addr) (xs ys : Array Value) (n n2 : Nat) (dd dd2 : Option Addr) (sl sl2 : Array (Option Value)) (hsz : xs.size = ys.size) :
    MeetsIn prog w (Builtin.«list.__ne__» ⟨[.ref l, .ref b], []⟩)
      (fun A R s => s.heap.get? l = some { cls := .type "list", dict := dd, data := .seq xs n, slots := sl } ∧ s.heap.get? b = some { cls := .type "list", dict := dd2, data := .seq ys n2, slots := sl2 } ∧
        (∀ j (h1 : j < xs.size) (h2 : j < ys.size), EqP prog w A.in1 s xs[j] ys[j] true) ∧ R (.ok (.ret (.bool false))) s) := by
  intro A R s h
  obtain ⟨hp, g, d, tk, os⟩ := s
  obtain ⟨hl, hb, he, h⟩ := h
  have f3 := AutoSeq1.sub_list_list
  have hne : ¬ (xs.size != ys.size) = true := by simp [hsz]
  wp_walk using wpAny_loadPart' hl, wpAny_loadPart' hb
  exact ⟨plainId_quiet plain_eq_loop _, codeAny_builtin entry_eq_loop (by
    rw [Around.under_plainId plain_eq_loop _]
    exact eqLoop l b xs ys n n2 dd dd2 sl sl2 hsz 3 rfl _ 0 rfl A R _ ⟨hl, hb, he, h⟩)⟩
/-- equal items, tuples: == -/
theorem eqTuples (l b : Addr) (xs ys : Array Value) (n n2 : Nat) (dd dd2 : Option Addr) (sl sl2 : Array (Option Value)) (hsz : xs.size = ys.size) :
    MeetsIn prog w (Builtin.«tuple.__eq__» ⟨[.ref l, .ref b], []⟩)
      (fun A R s => s.heap.get? l = some { cls := .type "tuple", dict := dd, data := .seq xs n, slots := sl } ∧ s.heap.get? b = some { cls := .type "tuple", dict := dd2, data := .seq ys n2, slots := sl2 } ∧
        (∀ j (h1 : j < xs.size) (h2 : j < ys.size), EqP prog w A.in1 s xs[j] ys[j] true) ∧ R (.ok (.ret (.bool true))) s) :=
  .of_wp fun A R s h => by
    obtain ⟨hp, g, d, tk, os⟩ := s
    obtain ⟨hl, hb, he, h⟩ := h
    have f2 := AutoSeq1.sub_tuple_tuple
    have zl : (xs.toList.zip ys.toList).length = xs.size := by simp [hsz]
    wp_walk using wpAny_loadPart' hl, wpAny_loadPart' hb, wpAny_forIn_list _ (fun rest b s' => b.1 = none ∧ s' = ⟨hp, g, d, tk, os⟩ ∧ ∃ i, rest = (xs.toList.zip ys.toList).drop i) _
    case turn =>
      rintro ⟨y, x⟩ rest b s' ⟨hb', rfl, i, hz⟩
      have hlt : i < (xs.toList.zip ys.toList).length := by
        rcases Nat.lt_or_ge i (xs.toList.zip ys.toList).length with q | q
        · exact q
        · rw [List.drop_of_length_le q] at hz; cases hz
      have h1 : i < xs.size := zl ▸ hlt
      have h2 : i < ys.size := hsz ▸ h1
      rw [List.drop_eq_getElem_cons hlt] at hz
      injection hz with e1 e2
      have ey : y = xs[i] := by simpa using congrArg Prod.fst e1
      have ex : x = ys[i] := by simpa using congrArg Prod.snd e1
      subst ey ex
      refine wpAny_bind (he i h1 h2 _ _ ?_)
      wp_walk
      exact ⟨rfl, rfl, i + 1, e2⟩
    case fin =>
      rintro ⟨b1, b2⟩ s' ⟨hb', rfl, i, hz⟩
      simp only at hb'
      subst hb'
      wp_walk
      exact ⟨_, rfl, by simpa [Builtin.Tuple.tupleCompareSizes, hsz] using h⟩
    case h =>
      exact ⟨rfl, rfl, 0, rfl⟩
theorem neTuples (l b : Addr) (xs ys : Array Value) (n n2 : Nat) (dd dd2 : Option Addr) (sl sl2 : Array (Option Value)) (hsz : xs.size = ys.size) :
    MeetsIn prog w (Builtin.«tuple.__ne__» ⟨[.ref l, .ref b], []⟩)
      (fun A R s => s.heap.get? l = some { cls := .type "tuple", dict := dd, data := .seq xs n, slots := sl } ∧ s.heap.get? b = some { cls := .type "tuple", dict := dd2, data := .seq ys n2, slots := sl2 } ∧
        (∀ j (h1 : j < xs.size) (h2 : j < ys.size), EqP prog w A.in1 s xs[j] ys[j] true) ∧ R (.ok (.ret (.bool false))) s) :=
  .of_wp fun A R s h => by
    obtain ⟨hp, g, d, tk, os⟩ := s
    obtain ⟨hl, hb, he, h⟩ := h
    have f2 := AutoSeq1.sub_tuple_tuple
    have zl : (xs.toList.zip ys.toList).length = xs.size := by simp [hsz]
    wp_walk using wpAny_loadPart' hl, wpAny_loadPart' hb, wpAny_forIn_list _ (fun rest b s' => b.1 = none ∧ s' = ⟨hp, g, d, tk, os⟩ ∧ ∃ i, rest = (xs.toList.zip ys.toList).drop i) _
    case turn =>
      rintro ⟨y, x⟩ rest b s' ⟨hb', rfl, i, hz⟩
      have hlt : i < (xs.toList.zip ys.toList).length := by
        rcases Nat.lt_or_ge i (xs.toList.zip ys.toList).length with q | q
        · exact q
        · rw [List.drop_of_length_le q] at hz; cases hz
      have h1 : i < xs.size := zl ▸ hlt
      have h2 : i < ys.size := hsz ▸ h1
      rw [List.drop_eq_getElem_cons hlt] at hz
      injection hz with e1 e2
      have ey : y = xs[i] := by simpa using congrArg Prod.fst e1
      have ex : x = ys[i] := by simpa using congrArg Prod.snd e1
      subst ey ex
      refine wpAny_bind (he i h1 h2 _ _ ?_)
      wp_walk
      exact ⟨rfl, rfl, i + 1, e2⟩
    case fin =>
      rintro ⟨b1, b2⟩ s' ⟨hb', rfl, i, hz⟩
      simp only at hb'
      subst hb'
      wp_walk
      exact ⟨_, rfl, by simpa [Builtin.Tuple.tupleCompareSizes, hsz, bne] using h⟩
    case h =>
      exact ⟨rfl, rfl, 0, rfl⟩
section
variable {A : Around} {s : Shared} {l b : Addr} {xs ys : Array Value}
theorem rcEqT (hl : s.heap.IsTuple l xs) (hb : s.heap.IsTuple b ys) (hsz : xs.size = ys.size) (hu : A.units < cLine) (he : ∀ j (h1 : j < xs.size) (h2 : j < ys.size), EqP prog w A.in1 s xs[j] ys[j] true)
    (E Q : Value → Shared → Prop) (h : Q (.bool true) s) : wpAny (model prog w) A (richCompare .Eq (.ref l) (.ref b)) Q E s := by
  obtain ⟨⟨cls, dd, data, sl⟩, ho, hc, n, hd⟩ := id hl
  obtain ⟨⟨cls2, dd2, data2, sl2⟩, ho2, hc2, n2, hd2⟩ := id hb
  simp only at hc hd hc2 hd2
  subst hc hd hc2 hd2
  have ta : s.TypeIs (.ref l) "tuple" := ⟨_, ho, rfl⟩
  have tb : s.TypeIs (.ref b) "tuple" := ⟨_, ho2, rfl⟩
  exact wpAny_richCompare_same_room (op := .Eq) ta tb F.slot_tuple_eq (call_meetsIn F.slot_tuple_eq ta F.entry_tuple_eq (F.args_tuple_eq_2 _ _) (eqTuples l b xs ys n n2 dd dd2 sl sl2 hsz)
    ⟨ho, ho2, he, show Value.bool true ≠ Value.notImplemented ∧ Q (.bool true) s from ⟨(fun x => nomatch x), h⟩⟩) hu
theorem rcNeT (hl : s.heap.IsTuple l xs) (hb : s.heap.IsTuple b ys) (hsz : xs.size = ys.size) (hu : A.units < cLine) (he : ∀ j (h1 : j < xs.size) (h2 : j < ys.size), EqP prog w A.in1 s xs[j] ys[j] true)
    (E Q : Value → Shared → Prop) (h : Q (.bool false) s) : wpAny (model prog w) A (richCompare .NotEq (.ref l) (.ref b)) Q E s := by
  obtain ⟨⟨cls, dd, data, sl⟩, ho, hc, n, hd⟩ := id hl
  obtain ⟨⟨cls2, dd2, data2, sl2⟩, ho2, hc2, n2, hd2⟩ := id hb
  simp only at hc hd hc2 hd2
  subst hc hd hc2 hd2
  have ta : s.TypeIs (.ref l) "tuple" := ⟨_, ho, rfl⟩
  have tb : s.TypeIs (.ref b) "tuple" := ⟨_, ho2, rfl⟩
  exact wpAny_richCompare_same_room (op := .NotEq) ta tb F.slot_tuple_ne (call_meetsIn F.slot_tuple_ne ta F.entry_tuple_ne (F.args_tuple_ne_2 _ _) (neTuples l b xs ys n n2 dd dd2 sl sl2 hsz)
    ⟨ho, ho2, he, show Value.bool false ≠ Value.notImplemented ∧ Q (.bool false) s from ⟨(fun x => nomatch x), h⟩⟩) hu
theorem rcNeL (hl : s.heap.IsList l xs) (hb : s.heap.IsList b ys) (hsz : xs.size = ys.size) (hu : A.units < cLine) (he : ∀ j (h1 : j < xs.size) (h2 : j < ys.size), EqP prog w A.in1 s xs[j] ys[j] true)
    (E Q : Value → Shared → Prop) (h : Q (.bool false) s) : wpAny (model prog w) A (richCompare .NotEq (.ref l) (.ref b)) Q E s := by
  obtain ⟨⟨cls, dd, data, sl⟩, ho, hc, n, hd⟩ := id hl
  obtain ⟨⟨cls2, dd2, data2, sl2⟩, ho2, hc2, n2, hd2⟩ := id hb
  simp only at hc hd hc2 hd2
  subst hc hd hc2 hd2
  have ta : s.TypeIs (.ref l) "list" := ⟨_, ho, rfl⟩
  have tb : s.TypeIs (.ref b) "list" := ⟨_, ho2, rfl⟩
  exact wpAny_richCompare_same_room (op := .NotEq) ta tb F.slot_list_ne (call_meetsIn F.slot_list_ne ta F.entry_list_ne (F.args_list_ne_2 _ _) (neLists l b xs ys n n2 dd dd2 sl sl2 hsz)
    ⟨ho, ho2, he, show Value.bool false ≠ Value.notImplemented ∧ Q (.bool false) s from ⟨(fun x => nomatch x), h⟩⟩) hu
end
end
/-! ### equal things in the abstract heap -/
/-- two lists, two tuples of equal items; two dicts of the same keys, their values equal -/
def EqS (H : Hp) (E : V → V → Prop) (x y : V) : Prop :=
  (∃ a b xs ys, x = .ref a ∧ y = .ref b ∧ H a = some (.lst xs) ∧ H b = some (.lst ys) ∧ Paired E xs ys) ∨
  (∃ a b xs ys, x = .ref a ∧ y = .ref b ∧ H a = some (.tup xs) ∧ H b = some (.tup ys) ∧ Paired E xs ys) ∨
    ∃ a b ks ls, x = .ref a ∧ y = .ref b ∧ H a = some (.dK ks) ∧ H b = some (.dK ls) ∧ ks.length = ls.length ∧ ∀ p ∈ ks, ∃ u, valV ls p.1 = some u ∧ E p.2 u
/-- equal, of nesting below n -/
def EqN (H : Hp) : Nat → V → V → Prop
  | 0 => fun _ _ => False
  | n + 1 => fun x y => (x = y ∧ flatB x = true) ∨ (∃ a, x = .ref a ∧ y = .ref a) ∨ EqS H (EqN H n) x y
section
variable {X : Cx} {pins : List (Addr × Obj)} {σ : L2.St} {H : Hp} {s : Shared}
theorem eqS_run (I : Inv X pins σ H s) {A : Around} {F : V → V → Prop} (hu : A.units < cLine) (ih : ∀ x y v u, F x y → RelV x v → RelV y u → EqP X.prog X.w A.in1 s v u true) {x y : V} {v u : Value} (h : EqS H F x y) (rx : RelV x v) (ry : RelV y u)
    (E Q : Value → Shared → Prop) (q : Q (.bool true) s) : wpAny (model X.prog X.w) A (richCompare .Eq v u) Q E s := by
  rcases h with ⟨a, b, xs, ys, rfl, rfl, ha, hb, hp⟩ | ⟨a, b, xs, ys, rfl, rfl, ha, hb, hp⟩ | ⟨a, b, ks, ls, rfl, rfl, ha, hb, hl, hp⟩
  · exact eqR_run I hu ih (.inl ⟨a, b, xs, ys, rfl, rfl, SqL.of ha, SqL.of hb, hp⟩) rx ry E Q q
  · cases (show v = Value.ref a from rx)
    cases (show u = Value.ref b from ry)
    obtain ⟨us, r1, p1, _⟩ := I.tuple (SqT.of (K := X.K) ha)
    obtain ⟨ws, r2, p2, _⟩ := I.tuple (SqT.of (K := X.K) hb)
    have hsz : us.toArray.size = ws.toArray.size := by
      rw [List.size_toArray, List.size_toArray, ← r1.length, ← r2.length]
      exact Paired.length hp
    refine rcEqT (show s.heap.IsTuple a us.toArray from p1) (show s.heap.IsTuple b ws.toArray from p2) hsz hu (fun j h1 h2 => ?_) E Q q
    have k := items_run ih hp r1 r2 j (by simpa using h1) (by simpa using h2)
    simpa using k
  · exact eqR_run I hu ih (.inr ⟨a, b, ks, ls, rfl, rfl, ha, hb, hl, hp⟩) rx ry E Q q
theorem eqN_run (I : Inv X pins σ H s) : ∀ (n : Nat) (A : Around), A.units + n < cLine → ∀ (x y : V) (v u : Value), EqN H n x y → RelV x v → RelV y u → EqP X.prog X.w A s v u true
  | 0, _, _, _, _, _, _, h, _, _ => (show False from h).elim
  | n + 1, A, hu, x, y, v, u, h, rx, ry => by
    rcases h with ⟨rfl, f⟩ | ⟨a, rfl, rfl⟩ | h
    · exact (eqAt_same rx ry f).eqP
    · cases (show v = Value.ref a from rx)
      cases (show u = Value.ref a from ry)
      exact (SeqAt.EqAt.same _).eqP
    · have step := eqS_run I (A := A) (by omega) (eqN_run I n A.in1 (by show A.units + 1 + n < cLine; omega)) h rx ry
      obtain ⟨a, b, rfl, rfl⟩ : ∃ a b, x = .ref a ∧ y = .ref b := by
        rcases h with ⟨a, b, _, _, e1, e2, _⟩ | ⟨a, b, _, _, e1, e2, _⟩ | ⟨a, b, _, _, e1, e2, _⟩
        · exact ⟨a, b, e1, e2⟩
        · exact ⟨a, b, e1, e2⟩
        · exact ⟨a, b, e1, e2⟩
      cases (show v = Value.ref a from rx)
      cases (show u = Value.ref b from ry)
      by_cases e : a = b
      · subst e
        exact (SeqAt.EqAt.same _).eqP
      · exact SeqAt.eqP_refs e step
end
section
variable {X : Cx}
/-- a != b, two lists or two tuples that are equal, whatever stands in them -/
def rNeX : R2 := fun x y H Q => ∃ n, n ≤ 60 ∧ ((∃ a b xs ys, x = .ref a ∧ y = .ref b ∧ H a = some (.lst xs) ∧ H b = some (.lst ys) ∧ Paired (EqN H n) xs ys) ∨
  (∃ a b xs ys, x = .ref a ∧ y = .ref b ∧ H a = some (.tup xs) ∧ H b = some (.tup ys) ∧ Paired (EqN H n) xs ys)) ∧ Q (.bl false) H
theorem op_neX (hu : X.A.units + 64 < cLine) : OpR X (compareOp .NotEq) rNeX := by
  intro pins s σ H x y v u Q I rx ry h
  obtain ⟨n, hn, h, q⟩ := h
  have ih := eqN_run I n X.A.in1 (by show X.A.units + 1 + n < cLine; omega)
  rcases h with ⟨a, b, xs, ys, rfl, rfl, ha, hb, hp⟩ | ⟨a, b, xs, ys, rfl, rfl, ha, hb, hp⟩
  · cases (show v = Value.ref a from rx)
    cases (show u = Value.ref b from ry)
    obtain ⟨us, r1, p1, _⟩ := I.list (SqL.of (K := X.K) ha)
    obtain ⟨ws, r2, p2, _⟩ := I.list (SqL.of (K := X.K) hb)
    have hsz : us.toArray.size = ws.toArray.size := by
      rw [List.size_toArray, List.size_toArray, ← r1.length, ← r2.length]
      exact Paired.length hp
    refine rcNeL p1.isList p2.isList hsz (by omega) (fun j h1 h2 => ?_) _ _ ⟨.bl false, H, I, rfl, q⟩
    have k := items_run ih hp r1 r2 j (by simpa using h1) (by simpa using h2)
    simpa using k
  · cases (show v = Value.ref a from rx)
    cases (show u = Value.ref b from ry)
    obtain ⟨us, r1, p1, _⟩ := I.tuple (SqT.of (K := X.K) ha)
    obtain ⟨ws, r2, p2, _⟩ := I.tuple (SqT.of (K := X.K) hb)
    have hsz : us.toArray.size = ws.toArray.size := by
      rw [List.size_toArray, List.size_toArray, ← r1.length, ← r2.length]
      exact Paired.length hp
    refine rcNeT (show s.heap.IsTuple a us.toArray from p1) (show s.heap.IsTuple b ws.toArray from p2) hsz (by omega) (fun j h1 h2 => ?_) _ _ ⟨.bl false, H, I, rfl, q⟩
    have k := items_run ih hp r1 r2 j (by simpa using h1) (by simpa using h2)
    simpa using k
/-- a list against an empty one -/
def rEqE (K : PySem.W.Frag) : R2 := fun x y H Q => ∃ a b xs, x = .ref a ∧ y = .ref b ∧ SqL K H a xs ∧ SqL K H b [] ∧ Q (.bl xs.isEmpty) H
def rNeE (K : PySem.W.Frag) : R2 := fun x y H Q => ∃ a b xs, x = .ref a ∧ y = .ref b ∧ SqL K H a xs ∧ SqL K H b [] ∧ Q (.bl (!xs.isEmpty)) H
theorem op_eqE (hu : X.A.units < cLine) : OpR X (compareOp .Eq) (rEqE X.K) := by
  intro pins s σ H x y v u Q I rx ry h
  obtain ⟨a, b, xs, rfl, rfl, ha, hb, q⟩ := h
  cases rx
  cases ry
  obtain ⟨us, r1, p1, _⟩ := I.list ha
  obtain ⟨ws, r2, p2, _⟩ := I.list hb
  cases r2
  cases r1 with
  | nil => exact eq_listAt (e := fun _ => true) p1.isList p2.isList rfl hu (fun j h1 => absurd h1 (Nat.not_lt_zero j)) ⟨.bl true, H, I, rfl, q⟩
  | cons r1 r2 => exact eq_list_lengthsAt p1.isList p2.isList (by simp) hu ⟨.bl false, H, I, rfl, q⟩
theorem op_neE (hu : X.A.units < cLine) : OpR X (compareOp .NotEq) (rNeE X.K) := by
  intro pins s σ H x y v u Q I rx ry h
  obtain ⟨a, b, xs, rfl, rfl, ha, hb, q⟩ := h
  cases rx
  cases ry
  obtain ⟨us, r1, p1, _⟩ := I.list ha
  obtain ⟨ws, r2, p2, _⟩ := I.list hb
  cases r2
  cases r1 with
  | nil => exact RcNeAt.lists (e := fun _ => true) p1.isList p2.isList rfl hu (fun j h1 => absurd h1 (Nat.not_lt_zero j)) _ _ _ _ ⟨.bl false, H, I, rfl, q⟩
  | cons r1 r2 => exact RcNeAt.lists_lengths p1.isList p2.isList (by simp) hu _ _ _ _ ⟨.bl true, H, I, rfl, q⟩
/-- text * k, k 0 or 1 -/
def rMulS : R2 := fun x y H Q => ∃ z k, x = .str z ∧ y = .int k ∧ ((k = 0 ∧ Q (.str Str.empty) H) ∨ (k = 1 ∧ Q (.str z) H))
theorem op_mulS : OpR X (binaryOp .Mult) rMulS := by
  intro pins s σ H x y v u Q I rx ry h
  obtain ⟨z, k, rfl, rfl, h⟩ := h
  obtain ⟨t, rfl⟩ := rx
  obtain ⟨t', rfl⟩ := ry
  rcases h with ⟨rfl, q⟩ | ⟨rfl, q⟩
  · exact P.mul_str_none (by decide) (by decide) ⟨.str Str.empty, H, I.tok _, ⟨_, rfl⟩, q⟩
  · refine P.mul_str (by decide) (fun _ h => by simp at h) (fun _ h => by simp at h) ?_
    rw [if_neg (by decide), if_pos (by rfl)]
    exact ⟨.str z, H, I, ⟨_, rfl⟩, q⟩
/-- a for over a list or a tuple -/
def iEither (K : PySem.W.Frag) (tl : TE) : TI := fun σ H R => iList K tl σ H R ∨ iTup K tl σ H R
theorem pi_either {tg l : Expr} {tl : TE} (hl : PE X l tl) : PI X tg l (iEither X.K tl) :=
  ⟨fun pins s σ H R I h => h.elim (fun h => (pi_list hl).run pins s σ H R I h) fun h => (pi_tup hl).run pins s σ H R I h⟩
end
end Sw
set_option Elab.async false
set_option linter.all false
set_option maxRecDepth 100000
set_option maxHeartbeats 4000000
/-! enumerate over a tuple. -/
namespace Sw
open PySem PySem.Spec PyProof.Rows L2
open AutoSeq1 (wpAny_loadPart')
theorem enumNew {v : Value} {o : Obj} {G : Heap → Prop} (B : Begins v o G) :
    Meets (Builtin.«enumerate.__new__» ⟨[.type "enumerate", v], []⟩) (fun _ R s => G s.heap ∧
      R (.ok (.ret (.ref (s.heap.push o).objs.size))) { s with heap := (s.heap.push o).push { cls := .type "enumerate", data := .fields #[.none, .bool false, .ref s.heap.objs.size, rawInt 0, .none, .none] } }) :=
  .of_wp fun prog w A R s h => by
    obtain ⟨hp, g, d, tk, os⟩ := s
    obtain ⟨h1, h⟩ := h
    have isE := sub_enumerate
    have begin_ : ∀ {A' : Around} {E : Value → Shared → Prop} {Q : Value → Shared → Prop}, Q (.ref hp.objs.size) ⟨hp.push o, g, d, tk, os⟩ → wpAny (model prog w) A' (pyIter v) Q E ⟨hp, g, d, tk, os⟩ :=
      fun q => B.iter prog w _ _ ⟨hp, g, d, tk, os⟩ _ h1 q
    wp_walk using begin_
    refine wpAny_stack_any fun st => wpAny_pure ?_
    split
    · rename_i c _ _ _ _ _
      cases (c == Value.type "enumerate")
      · wp_walk using begin_
        exact ⟨_, rfl, h⟩
      · wp_walk using begin_
        exact ⟨_, rfl, h⟩
    · wp_walk using begin_
      exact ⟨_, rfl, h⟩
theorem call_enum {prog : Program} {w : World} {A : Around} {E : Value → Shared → Prop} {s : Shared} {v : Value} {o : Obj} {G : Heap → Prop} {Q : Value → Shared → Prop} (B : Begins v o G) (h1 : G s.heap)
    (h : ∀ h', IsEnum h' (s.heap.objs.size + 1) s.heap.objs.size 0 .none → h'.get? s.heap.objs.size = some o → h'.objs.size = s.heap.objs.size + 2 → (∀ b o, s.heap.get? b = some o → h'.get? b = some o) → Q (.ref (s.heap.objs.size + 1)) { s with heap := h' }) :
    wpAny (model prog w) A (call (.type "enumerate") [v]) Q E s := by
  refine callType_new F.called_enumerate (by decide) (F.typeCall_enumerate_1 _) (F.newCall_enumerate_1 _) (fun obj => F.args_object_init_2 obj _) F.entry_enumerate_new (enumNew B) ⟨h1, ?_⟩
  have hz : (s.heap.push o).objs.size = s.heap.objs.size + 1 := Heap.size_push ..
  show _ ∧ _
  rw [hz]
  have he : IsEnum ((s.heap.push o).push { cls := .type "enumerate", data := .fields #[.none, .bool false, .ref s.heap.objs.size, rawInt 0, .none, .none] }) (s.heap.objs.size + 1) s.heap.objs.size 0 .none := by
    have z := Heap.get?_push_size (s.heap.push o) (o := { cls := .type "enumerate", data := .fields #[.none, .bool false, .ref s.heap.objs.size, rawInt 0, .none, .none] }) rfl
    rw [hz] at z
    exact z
  exact ⟨⟨_, he, rfl⟩, h _ he (Heap.get?_push_of_some _ (Heap.get?_push_size _ B.free)) (by rw [Heap.size_push, hz]) fun b o x => Heap.get?_push_of_some _ (Heap.get?_push_of_some _ x)⟩
/-- the tuple at a, each item in a new pair -/
def IteT (K : PySem.W.Frag) (a : Addr) : It :=
  ⟨fun i H => ∃ (xs : List V) (x : V), SqT K H a xs ∧ xs[i]? = some x, fun i H v H' => ∃ T x, v = .ref T ∧ H T = none ∧ H' = upd H T (.tup [.int (i : Nat), x]) ∧ ∀ xs, SqT K H a xs → xs[i]? = some x, fun i H => ∃ xs : List V, SqT K H a xs ∧ xs.length = i⟩
theorem turn_enumT {P : Program} {w : World} {K : PySem.W.Frag} {elts : List Expr} {kk : Nat} {tpos : Pos} (a e it : Addr) :
    Turn P w K (.Tuple elts kk tpos) (IteT K a) [e, it] e (fun i h => (∃ old, IsEnum h e it ((i : Nat) : Int) old) ∧ h.IsTupleIter it a i ∧ e ≠ it) where
  mem := by simp
  obj := fun i h st b hb => by
    obtain ⟨⟨old, he⟩, ⟨o, ho, hc, hd⟩, _⟩ := st
    have e' : b = e ∨ b = it := by simpa using hb
    rcases e' with z | z
    · rw [z]; exact ⟨_, he, fun v q => nomatch q⟩
    · rw [z]; exact ⟨o, ho, fun v q => by rw [hd] at q; cases q⟩
  keep := fun i h h' st k => let ⟨⟨old, he⟩, hi, hne⟩ := st; ⟨⟨old, k e (by simp) _ he⟩, hi.at fun o q => k it (by simp) o q, hne⟩
  item := by
    intro X hP hw hK hc i pins s σ H E I hf st hg
    subst hP hw hK
    obtain ⟨⟨old, he⟩, hit, hne⟩ := st
    obtain ⟨xs, x, hq, hx⟩ := hg
    obtain ⟨its, rv, p, hz⟩ := I.tuple hq
    obtain ⟨u, hu, ru⟩ := rv.get hx
    have p' : s.heap.IsTuple a its.toArray := p
    have hlt : i < its.toArray.size := by simpa using (List.getElem?_eq_some_iff.mp hu).1
    have hea : e ≠ a := fun z => by
      obtain ⟨o, ho, hcl, _⟩ := p
      have he1 : s.heap.get? e = some _ := he
      rw [z, ho] at he1
      have z2 := Option.some.inj he1
      rw [z2] at hcl
      have q : Value.type "enumerate" = Value.type "tuple" := hcl
      injection q with q
      exact absurd q (by decide)
    have hia : it ≠ a := fun z => by
      obtain ⟨o, ho, hcl, _⟩ := p
      obtain ⟨o1, ho1, hc1, _⟩ := hit
      rw [z, ho] at ho1
      have z2 := Option.some.inj ho1
      rw [← z2, hcl] at hc1
      injection hc1 with q
      exact absurd q (by decide)
    have hel : e < s.heap.objs.size := Heap.lt_size he
    have hil : it < s.heap.objs.size := by obtain ⟨_, q, _⟩ := hit; exact Heap.lt_size q
    refine wpAny_pyNext_enum_itemD (Draws.tuple (A := X.A.in1) (show X.A.in1.handled = none from I.ok.hd hc) it a (Ne.symm hia) its.toArray) he ⟨hit, p'⟩ hlt hne (by simp [hne, hea]) fun y h' tk hy ho hst hT hsz hk => ?_
    have ey : y = u := by
      have q : its.toArray[i]? = some y := hy
      have q2 : its[i]? = some y := by simpa using q
      rw [hu] at q2
      exact (Option.some.inj q2).symm
    subst ey
    refine ⟨_, rfl, wpAny_letOwnedTupleGo_enum (s := { s with heap := h', toks := tk + 1 }) ho fun h'' he' sb => ?_⟩
    have hT2 : h''.get? s.heap.objs.size = some { cls := .type "tuple", data := .seq #[.int i tk, y] } := (sb.2 _ (Nat.ne_of_gt hel)).trans hT
    have new : ObjOk X.prog X.w (upd H s.heap.objs.size (.tup [.int (i : Nat), x])) h'' s.heap.objs.size (.tup [.int (i : Nat), x]) :=
      ⟨by show 2 ≤ sizeLine; decide, [.int i tk, y], .cons ⟨_, rfl⟩ (.cons ru .nil), ⟨_, hT2, rfl, _, rfl⟩⟩
    have I1 : Inv X pins σ (upd H s.heap.objs.size (.tup [.int (i : Nat), x])) { s with heap := h'', toks := tk + 1 } :=
      I.turnedNew (ch := [e, it]) (fun b ob hb q => (sb.2 b (fun z => hb (by simp [z]))).trans (hk b ob (fun z => hb (by simp [z])) (fun z => hb (by simp [z])) q)) hf (Nat.le_refl _) new
    refine ⟨.ref s.heap.objs.size, _, I1, rfl, ⟨_, x, rfl, I.hok.fresh (Nat.le_refl _), rfl, fun ys hy => by rw [I.tuple_inj hy hq]; exact hx⟩, ⟨⟨y, ?_⟩, hst.1.at fun o q => (sb.2 it (Ne.symm hne)).trans q, hne⟩, fun b hb => ?_⟩
    · have e1 : ((i + 1 : Nat) : Int) = (i : Int) + 1 := by omega
      rw [e1]; exact he'
    · have hb' : b < s.heap.objs.size := by
        have e' : b = e ∨ b = it := by simpa using hb
        rcases e' with z | z
        · rw [z]; exact hel
        · rw [z]; exact hil
      rw [upd_ne (Nat.ne_of_lt hb')]
      exact (hf b hb).1
  done := by
    intro X hP hw hK hc i pins s σ H E I hf st hg
    subst hP hw hK
    obtain ⟨⟨old, he⟩, hit, hne⟩ := st
    obtain ⟨xs, hq, hx⟩ := hg
    obtain ⟨its, rv, p, hz⟩ := I.tuple hq
    have p' : s.heap.IsTuple a its.toArray := p
    obtain ⟨f0, f1, f2, f3, f4, f5⟩ := hf it (by simp)
    have hl := rv.length
    have hia : it ≠ a := fun z => by
      obtain ⟨o, ho, hcl, _⟩ := p
      obtain ⟨o1, ho1, hc1, _⟩ := hit
      rw [z, ho] at ho1
      have z2 := Option.some.inj ho1
      rw [← z2, hcl] at hc1
      injection hc1 with q
      exact absurd q (by decide)
    have en : i = its.toArray.size := by simp; omega
    refine wpAny_pyNext_enum_endD (Draws.tuple (A := X.A.in1) (show X.A.in1.handled = none from I.ok.hd hc) it a (Ne.symm hia) its.toArray) he ⟨by rw [← en]; exact hit, p'⟩ fun h' eb => ⟨rfl, I.turned (t' := s.toks) (fun b o hb q => eb b o hb q) f0 f1 f3 f4 f5⟩
  self := fun A i s Q E st h => let ⟨⟨_, he⟩, _⟩ := st; wpAny_pyIter_enum he h
def iEnumT (K : PySem.W.Frag) (ta : TA) : TI := fun σ H R => ta σ H fun vs H1 => ∃ a xs, vs = [.ref a] ∧ SqT K H1 a xs ∧ R (IteT K a) H1
theorem pi_enumT {X : Cx} {e : Expr} {ta : TA} {p pos tpos : Pos} {elts : List Expr} {kk : Nat} (hg : Gl X "enumerate") (hm : X.mg "enumerate" = none) (ha : PA X [e] ta) (hs : starEach [e] X.env = [(false, eval e X.env)] := by rfl) :
    PI X (.Tuple elts kk tpos) (.Call (.Name "enumerate" p) [e] [] pos) (iEnumT X.K ta) := by
  refine ⟨fun pins s σ H R I h => ?_⟩
  refine Call_ (ld_blt I hg hm boot_enumerate (PyProof.Rows.callWith_type1 (thn (ha.run pos pins s σ H _ I h) fun us s1 ⟨vs, H1, I1, r1, q1⟩ => ?_) hs rfl))
  obtain ⟨a, xs, ex, hq, q⟩ := q1
  subst ex
  cases r1 with
  | cons r rr =>
    cases rr
    cases r
    obtain ⟨its, rv, p', hz⟩ := I1.tuple hq
    refine call_enum (begins_tuple a its.toArray) p' fun h' he hit hsz hk => wpAny_pyIter_enum he ?_
    have I2 : Inv X pins σ H1 { s1 with heap := h' } := I1.kept (t' := s1.toks) hk
    refine ⟨s1.heap.objs.size + 1, [s1.heap.objs.size + 1, s1.heap.objs.size], _, _, H1, rfl, I2, turn_enumT a (s1.heap.objs.size + 1) s1.heap.objs.size, ⟨⟨.none, he⟩, ⟨_, hit, rfl, rfl⟩, Nat.succ_ne_self _⟩, fun b hb => ?_, q⟩
    have e' : b = s1.heap.objs.size + 1 ∨ b = s1.heap.objs.size := by simpa using hb
    have hle : s1.heap.objs.size ≤ b := by
      rcases e' with z | z
      · rw [z]; exact Nat.le_add_right _ _
      · rw [z]; exact Nat.le_refl _
    exact I1.fpOk hle (I1.hok.fresh hle)
theorem walk_enumT {K : PySem.W.Frag} {a : Addr} {xs : List V} : Walk (IteT K a) xs.length (fun H => SqT K H a xs) (YPair (fun i => some (.int (i : Nat))) (fun i => xs[i]?)) := by
  refine ⟨fun i _ hi q => ⟨xs, xs[i], q, by simp [hi]⟩, fun _ q => ⟨xs, q, rfl⟩, fun i H v H' _ q y => ?_⟩
  obtain ⟨T, x, h1, h2, h3, h4⟩ := y
  exact ⟨T, .int (i : Nat), x, h1, h2, h3, rfl, h4 xs q⟩
end Sw
set_option Elab.async false
set_option linter.all false
set_option maxRecDepth 100000
set_option maxHeartbeats 4000000
/-! The layer's rules with the written part K named (they stand within comprehensions too), and short words. -/
namespace Sw
open PySem PySem.Spec PyProof.Rows L2
section
variable {X : Cx} {K : PySem.W.Frag}
theorem ix_tupK (hK : X.K = K) : IxR X (rIxT K) := hK ▸ ix_tup
theorem ix_listK (hK : X.K = K) : IxR X (rIxL K) := hK ▸ ix_list
theorem op_in_seqK (hK : X.K = K) : OpR X (compareOp .In) (rIn K false) := hK ▸ op_in_seq
theorem op_notIn_seqK (hK : X.K = K) : OpR X (compareOp .NotIn) (rIn K true) := hK ▸ op_notIn_seq
theorem call_len_seqK (hK : X.K = K) : CallR X (.builtin "len") (fun xs H Q => ∃ p ys, xs = [.ref p] ∧ (SqL K H p ys ∨ SqT K H p ys) ∧ Q (.int ys.length) H) := hK ▸ call_len_seq
theorem pg_tupK {pos : Pos} {es : List Expr} {k : Nat} {t : TGs} {n : Nat} (hK : X.K = K) (hc : X.calm = true) (h : PGs X es t) (hn : (assignEach es X.env).length = n := by rfl) (hst : (assignEach es X.env).findIdx? (·.1) = none := by rfl) :
    PG X (.Tuple es k pos) (gTup K n t) := hK ▸ pg_tup hc h hn hst
end
theorem gWide {K : PySem.W.Frag} {mg : Str → Option Value} (T : Txt K mg) : ∃ u, mg "WIDE" = some u ∧ RelV (.int 4294967296) u := let ⟨t, h⟩ := T.wide; ⟨_, h, t, rfl⟩
end Sw
set_option Elab.async false
set_option linter.all false
set_option maxRecDepth 100000
set_option maxHeartbeats 4000000
/-! The plain data: immutable data in the heap, kinds, values, terms, rows, a hand's step. -/
namespace Sw
open PySem PySem.Spec L2
/-! ### immutable data -/
mutual
/-- v is, in H, the datum d: an int, a text, a tuple of data -/
inductive Im (H : Hp) : V → PyData → Prop
  | int (i : Int) : Im H (.int i) (.int i)
  | str (x : Str) : Im H (.str x) (.str x)
  | tup {a : Addr} {xs : List V} {ds : List PyData} : H a = some (.tup xs) → Ims H xs ds → Im H (.ref a) (.tuple ds)
inductive Ims (H : Hp) : List V → List PyData → Prop
  | nil : Ims H [] []
  | cons {v : V} {vs : List V} {d : PyData} {ds : List PyData} : Im H v d → Ims H vs ds → Ims H (v :: vs) (d :: ds)
end
/-- tuples stay -/
def TS (H H' : Hp) : Prop := ∀ a xs, H a = some (.tup xs) → H' a = some (.tup xs)
theorem TS.refl {H : Hp} : TS H H := fun _ _ h => h
theorem TS.trans {H H1 H2 : Hp} (a : TS H H1) (b : TS H1 H2) : TS H H2 := fun x xs h => b x xs (a x xs h)
theorem ts_same {H H' : Hp} (s : Same H H') : TS H H' := fun a xs h => s a _ h
theorem ts_new {H : Hp} {p : Addr} {o : HO} (n : H p = none) : TS H (upd H p o) := fun a xs h => by rw [upd_ne (ne_of_none h n)]; exact h
theorem same_new {H : Hp} {p : Addr} (n : H p = none) (o : HO) : Same H (upd H p o) := fun b u q => by rw [upd_ne (ne_of_none q n)]; exact q
theorem same_refl {H : Hp} : Same H H := fun _ _ h => h
mutual
theorem Im.mono {H H' : Hp} (t : TS H H') : ∀ {v : V} {d : PyData}, Im H v d → Im H' v d
  | _, _, .int i => .int i
  | _, _, .str x => .str x
  | _, _, .tup h hs => .tup (t _ _ h) (Ims.mono t hs)
theorem Ims.mono {H H' : Hp} (t : TS H H') : ∀ {vs : List V} {ds : List PyData}, Ims H vs ds → Ims H' vs ds
  | _, _, .nil => .nil
  | _, _, .cons h hs => .cons (Im.mono t h) (Ims.mono t hs)
end
section
variable {H : Hp}
theorem Im.intE {v : V} {i : Int} (h : Im H v (.int i)) : v = .int i := by cases h; rfl
theorem Im.strE {v : V} {x : Str} (h : Im H v (.str x)) : v = .str x := by cases h; rfl
theorem Im.tupE {v : V} {ds : List PyData} (h : Im H v (.tuple ds)) : ∃ a xs, v = .ref a ∧ H a = some (.tup xs) ∧ Ims H xs ds := by
  cases h with
  | tup h hs => exact ⟨_, _, rfl, h, hs⟩
theorem Im.t1 {v : V} {d1 : PyData} (h : Im H v (.tuple [d1])) : ∃ a v1, v = .ref a ∧ H a = some (.tup [v1]) ∧ Im H v1 d1 := by
  cases h with
  | tup h hs => cases hs with
    | cons h1 hs => cases hs; exact ⟨_, _, rfl, h, h1⟩
theorem Im.t2 {v : V} {d1 d2 : PyData} (h : Im H v (.tuple [d1, d2])) : ∃ a v1 v2, v = .ref a ∧ H a = some (.tup [v1, v2]) ∧ Im H v1 d1 ∧ Im H v2 d2 := by
  cases h with
  | tup h hs => cases hs with
    | cons h1 hs => cases hs with
      | cons h2 hs => cases hs; exact ⟨_, _, _, rfl, h, h1, h2⟩
theorem Im.t3 {v : V} {d1 d2 d3 : PyData} (h : Im H v (.tuple [d1, d2, d3])) : ∃ a v1 v2 v3, v = .ref a ∧ H a = some (.tup [v1, v2, v3]) ∧ Im H v1 d1 ∧ Im H v2 d2 ∧ Im H v3 d3 := by
  cases h with
  | tup h hs => cases hs with
    | cons h1 hs => cases hs with
      | cons h2 hs => cases hs with
        | cons h3 hs => cases hs; exact ⟨_, _, _, _, rfl, h, h1, h2, h3⟩
theorem Im.t4 {v : V} {d1 d2 d3 d4 : PyData} (h : Im H v (.tuple [d1, d2, d3, d4])) : ∃ a v1 v2 v3 v4, v = .ref a ∧ H a = some (.tup [v1, v2, v3, v4]) ∧ Im H v1 d1 ∧ Im H v2 d2 ∧ Im H v3 d3 ∧ Im H v4 d4 := by
  cases h with
  | tup h hs => cases hs with
    | cons h1 hs => cases hs with
      | cons h2 hs => cases hs with
        | cons h3 hs => cases hs with
          | cons h4 hs => cases hs; exact ⟨_, _, _, _, _, rfl, h, h1, h2, h3, h4⟩
/-- a tuple whose first item is a text -/
theorem Im.tHead {v : V} {d1 : PyData} {ds : List PyData} (h : Im H v (.tuple (d1 :: ds))) : ∃ a v1 vs, v = .ref a ∧ H a = some (.tup (v1 :: vs)) ∧ Im H v1 d1 ∧ Ims H vs ds := by
  cases h with
  | tup h hs => cases hs with
    | cons h1 hs => exact ⟨_, _, _, rfl, h, h1, hs⟩
theorem Ims.length : ∀ {vs : List V} {ds : List PyData}, Ims H vs ds → vs.length = ds.length
  | _, _, .nil => rfl
  | _, _, .cons _ hs => congrArg Nat.succ (Ims.length hs)
theorem Ims.at : ∀ {vs : List V} {ds : List PyData} {i : Nat} {d : PyData}, Ims H vs ds → ds[i]? = some d → ∃ v, vs[i]? = some v ∧ Im H v d
  | _, _, _, _, .nil, e => by simp at e
  | _, _, 0, _, .cons h _, e => by simp at e; subst e; exact ⟨_, rfl, h⟩
  | _, _, i + 1, d, .cons _ hs, e => by
    obtain ⟨v, h1, h2⟩ := Ims.at (i := i) (d := d) hs (by simpa using e)
    exact ⟨v, by simpa using h1, h2⟩
theorem Ims.of : ∀ {vs : List V} {ds : List PyData} {i : Nat} {v : V}, Ims H vs ds → vs[i]? = some v → ∃ d, ds[i]? = some d ∧ Im H v d
  | _, _, _, _, .nil, e => by simp at e
  | _, _, 0, _, .cons h _, e => by simp at e; subst e; exact ⟨_, rfl, h⟩
  | _, _, i + 1, v, .cons _ hs, e => by
    obtain ⟨d, h1, h2⟩ := Ims.of (i := i) (v := v) hs (by simpa using e)
    exact ⟨d, by simpa using h1, h2⟩
theorem Ims.append : ∀ {vs us : List V} {ds es : List PyData}, Ims H vs ds → Ims H us es → Ims H (vs ++ us) (ds ++ es)
  | _, _, _, _, .nil, s => s
  | _, _, _, _, .cons h hs, s => .cons h (Ims.append hs s)
theorem Ims.snoc {vs : List V} {ds : List PyData} {v : V} {d : PyData} (h : Ims H vs ds) (h1 : Im H v d) : Ims H (vs ++ [v]) (ds ++ [d]) := h.append (.cons h1 .nil)
theorem Ims.ints : ∀ (ns : List Int), Ims H (ns.map V.int) (ns.map PyData.int)
  | [] => .nil
  | n :: r => .cons (.int n) (Ims.ints r)
theorem Ims.intsE : ∀ {vs : List V} {ns : List Int}, Ims H vs (ns.map PyData.int) → vs = ns.map V.int
  | _, [], h => by cases h; rfl
  | _, n :: r, h => by
    cases h with
    | cons h1 hs => rw [h1.intE, Ims.intsE hs, List.map_cons]
theorem Ims.tail {vs : List V} {d : PyData} {ds : List PyData} (h : Ims H vs (d :: ds)) : ∃ v us, vs = v :: us ∧ Im H v d ∧ Ims H us ds := by
  cases h with
  | cons h1 hs => exact ⟨_, _, rfl, h1, hs⟩
theorem Ims.rev : ∀ {vs : List V} {ds : List PyData}, Ims H vs ds → Ims H vs.reverse ds.reverse
  | _, _, .nil => .nil
  | _, _, .cons h hs => by rw [List.reverse_cons, List.reverse_cons]; exact (Ims.rev hs).snoc h
mutual
theorem Im.dp {K : PySem.W.Frag} : ∀ {v : V} {d : PyData}, Im H v d → Dp K H v d
  | _, _, .int i => .int i
  | _, _, .str x => .str x
  | _, _, .tup h hs => .tup (SqT.of h) (Ims.dp hs)
theorem Ims.dp {K : PySem.W.Frag} : ∀ {vs : List V} {ds : List PyData}, Ims H vs ds → DpAll K H vs ds
  | _, _, .nil => .nil
  | _, _, .cons h hs => .cons (Im.dp h) (Ims.dp hs)
end
end
theorem at0 {v : V} {vs : List V} : atI (v :: vs) 0 = some v := atI_nat (j := 0) rfl
theorem at1 {v0 v : V} {vs : List V} : atI (v0 :: v :: vs) 1 = some v := atI_nat (j := 1) rfl
theorem at2 {v0 v1 v : V} {vs : List V} : atI (v0 :: v1 :: v :: vs) 2 = some v := atI_nat (j := 2) rfl
theorem at3 {v0 v1 v2 v : V} {vs : List V} : atI (v0 :: v1 :: v2 :: v :: vs) 3 = some v := atI_nat (j := 3) rfl
/-! ### kinds -/
structure KR where
  nm : Str
  alt : Bool
  ps : List (Str × Str)
def numK : Str := "num"
def sortS (b : Bool) : Str := if b then "alt" else "rec"
def partD (p : Str × Str) : PyData := .tuple [.str p.1, .str p.2]
def KR.d (r : KR) : PyData := .tuple [.str r.nm, .str (sortS r.alt), .tuple (r.ps.map partD)]
/-- the row of a kind -/
def row (ks : List KR) (k : Str) : Option KR := ks.find? fun r => decide (r.nm = k)
/-- num, or one of the first n kinds -/
def Kn (ks : List KR) (n : Nat) (k : Str) : Prop := k = numK ∨ ∃ (i : Nat) (r : KR), i < n ∧ ks[i]? = some r ∧ r.nm = k
theorem Kn.mono {ks : List KR} {n m : Nat} {k : Str} (h : Kn ks n k) (l : n ≤ m) : Kn ks m k := h.imp id fun ⟨i, r, a, b⟩ => ⟨i, r, Nat.lt_of_lt_of_le a l, b⟩
theorem Kn.append {ks ms : List KR} {n : Nat} {k : Str} (h : Kn ks n k) : Kn (ks ++ ms) n k := h.imp id fun ⟨i, r, a, b, c⟩ => ⟨i, r, a, by rw [List.getElem?_append_left (List.getElem?_eq_some_iff.mp b).1]; exact b, c⟩
structure KOk (ks : List KR) : Prop where
  nod : (ks.map (·.nm)).Nodup
  nnum : ∀ r ∈ ks, r.nm ≠ numK
  part : ∀ (i : Nat) (r : KR), ks[i]? = some r → ∀ p ∈ r.ps, Kn ks i p.2
  alt : ∀ r ∈ ks, r.alt = true → r.ps ≠ []
  pn : ∀ r ∈ ks, (r.ps.map (·.1)).Nodup ∧ r.ps.length ≤ 4
  len : ks.length ≤ 4
/-- in a list without equal names the first of a name is it -/
theorem find_of {α : Type} (f : α → Str) : ∀ {l : List α} {i : Nat} {x : α}, (l.map f).Nodup → l[i]? = some x → l.find? (fun y => decide (f y = f x)) = some x
  | [], _, _, _, e => by simp at e
  | y :: r, 0, x, _, e => by
    simp at e
    subst e
    simp
  | y :: r, i + 1, x, nd, e => by
    have e' : r[i]? = some x := by simpa using e
    rw [List.map_cons, List.nodup_cons] at nd
    have ne : f y ≠ f x := fun z => nd.1 (by rw [z]; exact List.mem_map_of_mem (List.mem_of_getElem? e'))
    rw [List.find?_cons, decide_eq_false ne]
    exact find_of f nd.2 e'
theorem KOk.row_at {ks : List KR} (h : KOk ks) {i : Nat} {r : KR} (e : ks[i]? = some r) : row ks r.nm = some r := find_of (fun r : KR => r.nm) h.nod e
theorem row_mem {ks : List KR} {k : Str} {r : KR} (h : row ks k = some r) : r ∈ ks ∧ r.nm = k := ⟨List.mem_of_find?_eq_some h, of_decide_eq_true (List.find?_some (p := fun r : KR => decide (r.nm = k)) h)⟩
/-- a kind that isn't num has a row, its parts stand ahead -/
theorem KOk.step {ks : List KR} (h : KOk ks) {n : Nat} {k : Str} (hk : Kn ks (n + 1) k) (hn : k ≠ numK) : ∃ r, row ks k = some r ∧ ∀ p ∈ r.ps, Kn ks n p.2 := by
  rcases hk with e | ⟨i, r, hi, e, rfl⟩
  · exact absurd e hn
  · exact ⟨r, h.row_at e, fun p hp => (h.part i r e p hp).mono (Nat.le_of_lt_succ hi)⟩
theorem KOk.none0 {ks : List KR} {k : Str} (hk : Kn ks 0 k) : k = numK := hk.elim id fun ⟨i, _, hi, _⟩ => absurd hi (Nat.not_lt_zero i)
/-- a kind of a make: num or a row's -/
abbrev Kd (ks : List KR) (k : Str) : Prop := Kn ks ks.length k
theorem KOk.row_kd {ks : List KR} {k : Str} {r : KR} (h : row ks k = some r) : Kd ks k := by
  obtain ⟨m, e⟩ := row_mem h
  obtain ⟨i, hi, z⟩ := List.mem_iff_getElem.mp m
  exact .inr ⟨i, r, hi, by rw [List.getElem?_eq_getElem hi, z], e⟩
theorem KOk.part_kd {ks : List KR} (h : KOk ks) {k : Str} {r : KR} (e : row ks k = some r) {p : Str × Str} (hp : p ∈ r.ps) : Kd ks p.2 := by
  obtain ⟨m, _⟩ := row_mem e
  obtain ⟨i, hi, z⟩ := List.mem_iff_getElem.mp m
  exact (h.part i r (by rw [List.getElem?_eq_getElem hi, z]) p hp).mono (Nat.le_of_lt hi)
theorem KOk.row_ne {ks : List KR} (h : KOk ks) {k : Str} {r : KR} (e : row ks k = some r) : k ≠ numK := by
  obtain ⟨m, z⟩ := row_mem e
  rw [← z]
  exact h.nnum r m
/-! ### values -/
def wide : Int := 4294967296
inductive VOk (ks : List KR) : Str → PyData → Prop
  | num {i : Int} : 0 ≤ i → i < wide → VOk ks numK (.int i)
  | rcd {k : Str} {r : KR} {vs : List PyData} : row ks k = some r → r.alt = false → vs.length = r.ps.length → (∀ (i : Nat) (p : Str × Str) (v : PyData), r.ps[i]? = some p → vs[i]? = some v → VOk ks p.2 v) → VOk ks k (.tuple [.str k, .tuple vs])
  | alt {k t k' : Str} {r : KR} {v : PyData} : row ks k = some r → r.alt = true → (t, k') ∈ r.ps → VOk ks k' v → VOk ks k (.tuple [.str k, .str t, v])
theorem VOk.numE {ks : List KR} (h : KOk ks) {d : PyData} (v : VOk ks numK d) : ∃ i, d = .int i ∧ 0 ≤ i ∧ i < wide := by
  cases v with
  | num h1 h2 => exact ⟨_, rfl, h1, h2⟩
  | rcd e _ _ _ => exact absurd rfl (h.row_ne e)
  | alt e _ _ _ => exact absurd rfl (h.row_ne e)
theorem VOk.recE {ks : List KR} (h : KOk ks) {k : Str} {r : KR} {d : PyData} (v : VOk ks k d) (e : row ks k = some r) (ha : r.alt = false) :
    ∃ vs, d = .tuple [.str k, .tuple vs] ∧ vs.length = r.ps.length ∧ ∀ (i : Nat) (p : Str × Str) (v : PyData), r.ps[i]? = some p → vs[i]? = some v → VOk ks p.2 v := by
  cases v with
  | num h1 h2 => exact absurd rfl (h.row_ne e)
  | rcd e' _ l q =>
    rw [e] at e'
    cases e'
    exact ⟨_, rfl, l, q⟩
  | alt e' a' _ _ =>
    rw [e] at e'
    cases e'
    rw [ha] at a'
    cases a'
theorem VOk.altE {ks : List KR} (h : KOk ks) {k : Str} {r : KR} {d : PyData} (v : VOk ks k d) (e : row ks k = some r) (ha : r.alt = true) : ∃ t k' u, d = .tuple [.str k, .str t, u] ∧ (t, k') ∈ r.ps ∧ VOk ks k' u := by
  cases v with
  | num h1 h2 => exact absurd rfl (h.row_ne e)
  | rcd e' a' l q =>
    rw [e] at e'
    cases e'
    rw [ha] at a'
    cases a'
  | alt e' _ m q =>
    rw [e] at e'
    cases e'
    exact ⟨_, _, _, rfl, m, q⟩
/-! ### terms -/
abbrev EnvD := List (Str × PyData)
def lookA (r : EnvD) (x : Str) : Option PyData := (r.find? fun p => decide (p.1 = x)).map (·.2)
def putA (r : EnvD) (x : Str) (d : PyData) : EnvD := if (r.any fun p => decide (p.1 = x)) = true then r.map (fun p => if p.1 = x then (p.1, d) else p) else r ++ [(x, d)]
def sOf : PyData → Str
  | .str s => s
  | _ => Str.empty
def iOf : PyData → Int
  | .int i => i
  | _ => 0
def tOf : PyData → List PyData
  | .tuple l => l
  | _ => []
def op2 (s : Str) (a b : Int) : Int := if s = "+" then (a + b) % wide else if s = "-" then (a - b) % wide else if s = "*" then (a * b) % wide else if s = "<" then (if a < b then 1 else 0) else (if a = b then 1 else 0)
/-- the field of a rec's value -/
def fieldOf (ks : List KR) (v : PyData) (f : Str) : PyData := match row ks (sOf ((tOf v).getD 0 .none)) with
  | some r => (tOf ((tOf v).getD 1 .none)).getD ((r.ps.map (·.1)).idxOf f) .none
  | none => .none
/-- what a term comes to -/
def ev (ks : List KR) : Nat → EnvD → PyData → PyData
  | 0, _, _ => .none
  | n + 1, r, t =>
    if sOf ((tOf t).getD 0 .none) = "num" then (tOf t).getD 1 .none
    else if sOf ((tOf t).getD 0 .none) = "box" then (lookA r (sOf ((tOf t).getD 1 .none))).getD .none
    else if sOf ((tOf t).getD 0 .none) = "op" then .int (op2 (sOf ((tOf t).getD 1 .none)) (iOf (ev ks n r ((tOf t).getD 2 .none))) (iOf (ev ks n r ((tOf t).getD 3 .none))))
    else if sOf ((tOf t).getD 0 .none) = "rec" then .tuple [(tOf t).getD 1 .none, .tuple ((tOf ((tOf t).getD 2 .none)).map fun e => ev ks n r e)]
    else if sOf ((tOf t).getD 0 .none) = "get" then fieldOf ks (ev ks n r ((tOf t).getD 1 .none)) (sOf ((tOf t).getD 2 .none))
    else if sOf ((tOf t).getD 0 .none) = "tag" then .tuple [(tOf t).getD 1 .none, (tOf t).getD 2 .none, ev ks n r ((tOf t).getD 3 .none)]
    else if sOf ((tOf t).getD 0 .none) = "case" then
      (match (tOf ((tOf t).getD 2 .none)).find? (fun a => decide (sOf ((tOf a).getD 0 .none) = sOf ((tOf (ev ks n r ((tOf t).getD 1 .none))).getD 1 .none))) with
        | some a => ev ks n (putA r (sOf ((tOf a).getD 1 .none)) ((tOf (ev ks n r ((tOf t).getD 1 .none))).getD 2 .none)) ((tOf a).getD 2 .none)
        | none => .none)
    else if iOf (ev ks n r ((tOf t).getD 1 .none)) ≠ 0 then ev ks n r ((tOf t).getD 2 .none) else ev ks n r ((tOf t).getD 3 .none)
abbrev Ctx := List (Str × Str)
def armD (a : Str × Str × PyData) : PyData := .tuple [.str a.1, .str a.2.1, a.2.2]
inductive WT (ks : List KR) : Nat → Ctx → Str → PyData → Prop
  | num {n : Nat} {g : Ctx} {i : Int} : 0 ≤ i → i < wide → WT ks (n + 1) g numK (.tuple [.str "num", .int i])
  | box {n : Nat} {g : Ctx} {x k : Str} : (x, k) ∈ g → WT ks (n + 1) g k (.tuple [.str "box", .str x])
  | op {n : Nat} {g : Ctx} {s : Str} {a b : PyData} : WT ks n g numK a → WT ks n g numK b → WT ks (n + 1) g numK (.tuple [.str "op", .str s, a, b])
  | rcd {n : Nat} {g : Ctx} {k : Str} {r : KR} {es : List PyData} : row ks k = some r → r.alt = false → es.length = r.ps.length → (∀ (i : Nat) (p : Str × Str) (e : PyData), r.ps[i]? = some p → es[i]? = some e → WT ks n g p.2 e) →
      WT ks (n + 1) g k (.tuple [.str "rec", .str k, .tuple es])
  | get {n : Nat} {g : Ctx} {k k' f : Str} {r : KR} {a : PyData} : WT ks n g k' a → row ks k' = some r → r.alt = false → (f, k) ∈ r.ps → WT ks (n + 1) g k (.tuple [.str "get", a, .str f])
  | tag {n : Nat} {g : Ctx} {k k' t : Str} {r : KR} {a : PyData} : row ks k = some r → r.alt = true → (t, k') ∈ r.ps → WT ks n g k' a → WT ks (n + 1) g k (.tuple [.str "tag", .str k, .str t, a])
  | case {n : Nat} {g : Ctx} {k k' : Str} {r : KR} {a : PyData} {arms : List (Str × Str × PyData)} (kf : Str → Str) : WT ks n g k' a → row ks k' = some r → r.alt = true → (∀ p ∈ r.ps, ∃ m ∈ arms, m.1 = p.1) →
      (∀ m ∈ arms, (m.1, kf m.1) ∈ r.ps) → (∀ m ∈ arms, ∀ q ∈ g, q.1 ≠ m.2.1) → (∀ m ∈ arms, WT ks n (g ++ [(m.2.1, kf m.1)]) k m.2.2) → WT ks (n + 1) g k (.tuple [.str "case", a, .tuple (arms.map armD)])
  | ite {n : Nat} {g : Ctx} {k : Str} {a b c : PyData} : WT ks n g numK a → WT ks n g k b → WT ks n g k c → WT ks (n + 1) g k (.tuple [.str "if", a, b, c])
theorem WT.mono {ks : List KR} : ∀ {n m : Nat} {g : Ctx} {k : Str} {t : PyData}, WT ks n g k t → n ≤ m → WT ks m g k t := by
  intro n m g k t h
  induction h generalizing m with
  | num h1 h2 => intro l; obtain ⟨m, rfl⟩ : ∃ j, m = j + 1 := ⟨m - 1, by omega⟩; exact .num h1 h2
  | box h1 => intro l; obtain ⟨m, rfl⟩ : ∃ j, m = j + 1 := ⟨m - 1, by omega⟩; exact .box h1
  | op _ _ i1 i2 => intro l; obtain ⟨m, rfl⟩ : ∃ j, m = j + 1 := ⟨m - 1, by omega⟩; exact .op (i1 (by omega)) (i2 (by omega))
  | rcd e a l1 _ ih => intro l; obtain ⟨m, rfl⟩ : ∃ j, m = j + 1 := ⟨m - 1, by omega⟩; exact .rcd e a l1 fun i p e h1 h2 => ih i p e h1 h2 (by omega)
  | get _ e a m1 ih => intro l; obtain ⟨m, rfl⟩ : ∃ j, m = j + 1 := ⟨m - 1, by omega⟩; exact .get (ih (by omega)) e a m1
  | tag e a m1 _ ih => intro l; obtain ⟨m, rfl⟩ : ∃ j, m = j + 1 := ⟨m - 1, by omega⟩; exact .tag e a m1 (ih (by omega))
  | case kf _ e a c1 c2 c3 _ i1 i2 => intro l; obtain ⟨m, rfl⟩ : ∃ j, m = j + 1 := ⟨m - 1, by omega⟩; exact .case kf (i1 (by omega)) e a c1 c2 c3 fun x hx => i2 x hx (by omega)
  | ite _ _ _ i1 i2 i3 => intro l; obtain ⟨m, rfl⟩ : ∃ j, m = j + 1 := ⟨m - 1, by omega⟩; exact .ite (i1 (by omega)) (i2 (by omega)) (i3 (by omega))
end Sw
set_option Elab.async false
set_option linter.all false
set_option maxRecDepth 100000
set_option maxHeartbeats 4000000
/-! Looks: named, hand_of, ways_of, kind_told, sort_of, parts_of, field. -/
namespace Sw
open PySem PySem.Spec PyProof.Rows L2
section
variable {P : Program} {w : World} {K : PySem.W.Frag} {mg : Str → Option Value} {base : Heap}
theorem mkCal {x : Str} {params : Arguments} {body : List Stmt} {scope : Scope} {f : Addr} {N ps : List Str} {k : Nat} {sp : Sp} (F : ∃ fd, FunD K x x params body scope [] [] f fd) (S : FnScope N ps scope) (hm : mg x = some (.ref f))
    (hb : ∀ (kV doc pm : Value) (an : Option Addr) (cdv ct : Value) (us : List Value), us.length = ps.length → bindArgs (PySem.W.fnOf x x params body scope .none kV doc pm an cdv ct) ⟨us, []⟩ = pure (ps.zip us))
    (len : ∀ vs H Q E, sp vs H Q E → vs.length = ps.length)
    (hbody : ∀ (cdv : Value) (A : Around) (outer : List Env) (s : Shared) (H : Hp) (vs : List V) (Q : VK) (E : XK), Room k (A.deeper (envOfC x scope s.heap.objs.size f cdv)) → sp vs H Q E →
      ∃ t, PSs (cxOf C8.CX0 P w K mg base N x scope f cdv A outer s H E) body t ∧ t { nx := fun _ H' => Q .non H', rt := Q } (start N vs) H) : C8.Cal P w K mg base (k + 1) x sp [] := by
  obtain ⟨fd, F⟩ := F
  exact ⟨f, fd, ps, [], F.ok S len hbody, hm, F.kp, F.bindsN hb, .nil⟩
theorem mkMet {C : Addr} {x qual : Str} {params : Arguments} {body : List Stmt} {scope : Scope} {f : Addr} {N ps : List Str} {k : Nat} {sp : Sp} (c : Cls K C) (m : Meth K C x f) (F : ∃ fd, FunD K x qual params body scope [] [] f fd) (S : FnScope N ps scope)
    (hb : ∀ (kV doc pm : Value) (an : Option Addr) (cdv ct : Value) (us : List Value), us.length = ps.length → bindArgs (PySem.W.fnOf x qual params body scope .none kV doc pm an cdv ct) ⟨us, []⟩ = pure (ps.zip us))
    (len : ∀ vs H Q E, sp vs H Q E → vs.length = ps.length)
    (hbody : ∀ (cdv : Value) (A : Around) (outer : List Env) (s : Shared) (H : Hp) (vs : List V) (Q : VK) (E : XK), Room k (A.deeper (envOfC qual scope s.heap.objs.size f cdv)) → sp vs H Q E →
      ∃ t, PSs (cxOf C8.CX0 P w K mg base N qual scope f cdv A outer s H E) body t ∧ t { nx := fun _ H' => Q .non H', rt := Q } (start N vs) H) : C8.Met P w K mg base (k + 1) C x sp [] := by
  obtain ⟨fd, F⟩ := F
  exact ⟨f, fd, ps, [], c, m, F.ok S len hbody, F.bindsN hb, .nil⟩
theorem strT {a b : Str} {A B : Prop} (h : a = b) (x : A) : if decide (V.str a = V.str b) = true then A else B := by
  rw [if_pos (decide_eq_true (by rw [h]))]
  exact x
theorem strF {a b : Str} {A B : Prop} (h : a ≠ b) (x : B) : if decide (V.str a = V.str b) = true then A else B := by
  rw [if_neg (by rw [decide_eq_true_eq]; intro z; exact h (V.str.inj z))]
  exact x
def headIs (n : Str) : PyData → Bool
  | .tuple (.str x :: _) => decide (x = n)
  | _ => false
def Headed (d : PyData) : Prop := ∃ x l, d = .tuple (.str x :: l)
def spNamed : Sp := fun vs H Q _ => ∃ (v : V) (n : Str) (ds : List PyData) (d : PyData), vs = [v, .str n] ∧ Im H v (.tuple ds) ∧ (∀ d ∈ ds, Headed d) ∧ ds.find? (headIs n) = some d ∧ ∀ r, Im H r d → Q r H
theorem calPNamed (T : Txt K mg) : C8.Cal P w K mg base 1 "named" spNamed [] := by
  refine mkCal T.fPNamed scPNamed T.glo_named (fun _ _ _ _ _ _ us hl => match us, hl with | [_, _], _ => rfl) (fun vs H Q E h => ?_) (fun cdv A outer s H vs Q E hr h => ?_)
  · obtain ⟨v, n, ds, d, rfl, _⟩ := h
    rfl
  obtain ⟨v, n, ds, d, rfl, hv, hh, hf, q⟩ := h
  obtain ⟨a, xs, rfl, ha, hs⟩ := hv.tupE
  refine ⟨_, PSs.nox (pss_cons (ps_for PassesOwn.never rfl (pi_tup (pv 0)) (pg_name (i := 2) scPNamed.nd rfl (Or.inl rfl))
        (pss_one (ps_if (pt_cmpR op_eq (pe_ix (ix_tupK (K := K) rfl) (pv 2) pe_int (fun _ _ => rfl)) (pv 1) (nomark _)) (pss_one (ps_ret (pv 2))) pss_nil)))
      (pss_one (ps_ret pe_non))), ?_⟩
  refine ⟨_, rfl, a, rfl, ⟨_, SqT.of ha⟩, for_it (walk_tup (K := K) (a := a) (xs := xs)) (fun i σ H' => H' = H ∧ (∃ c, σ = [some (.ref a), some (.str n), c]) ∧ ∀ j e, j < i → ds[j]? = some e → headIs n e = false)
    ⟨rfl, ⟨_, rfl⟩, fun j e hj => absurd hj (Nat.not_lt_zero j)⟩ (fun i σ H' _ hP => by rw [hP.1]; exact SqT.of ha) ?_ ?_⟩
  · rintro i x σ H1 H2 hi ⟨rfl, ⟨c, rfl⟩, hb⟩ ⟨rfl, hx⟩
    obtain ⟨e, he, ix⟩ := hs.of hx
    obtain ⟨y, l, rfl⟩ := hh e (List.mem_of_getElem? he)
    obtain ⟨b, v1, us, rfl, hb2, i1, _⟩ := ix.tHead
    cases i1.strE
    refine ⟨_, rfl, _, _, _, _, rfl, rfl, SqT.of hb2, at0, _, rfl, rfl, _, rfl, ite2 (fun c1 => ?_) (fun c1 => ?_)⟩
    · have e1 : y = n := V.str.inj (of_decide_eq_true c1)
      refine ⟨_, rfl, q _ ?_⟩
      have : d = .tuple (.str y :: l) := by
        have hl : i < ds.length := (List.getElem?_eq_some_iff.mp he).1
        have e2 : ds.find? (headIs n) = some (.tuple (.str y :: l)) := by
          refine List.find?_eq_some_iff_getElem.mpr ⟨by simp [headIs, e1], i, hl, (List.getElem?_eq_some_iff.mp he).2, fun j hj => ?_⟩
          have := hb j ds[j] hj (by rw [List.getElem?_eq_getElem])
          simp [this]
        rw [hf] at e2
        exact Option.some.inj e2
      rw [this]
      exact ix
    · have e1 : ¬ y = n := fun z => c1 (decide_eq_true (by rw [z]))
      refine ⟨rfl, ⟨_, rfl⟩, fun j e hj h => ?_⟩
      by_cases hj2 : j = i
      · subst hj2
        rw [he] at h
        cases h
        simp [headIs, e1]
      · exact hb j e (by omega) h
  · rintro σ H1 ⟨rfl, _, hb⟩
    exfalso
    obtain ⟨m, he⟩ := List.find?_eq_some_iff_append.mp hf
    obtain ⟨as, bs, e, _⟩ := he
    have hl : as.length < xs.length := by
      rw [hs.length, e, List.length_append, List.length_cons]
      omega
    have := hb as.length d hl (by rw [e]; simp)
    rw [this] at m
    cases m
end
end Sw
set_option Elab.async false
set_option linter.all false
set_option maxRecDepth 100000
set_option maxHeartbeats 4000000
/-! Looks: kind_told, sort_of, parts_of, hand_of, ways_of, field. -/
namespace Sw
open PySem PySem.Spec PyProof.Rows L2
section
variable {P : Program} {w : World} {K : PySem.W.Frag} {mg : Str → Option Value} {base : Heap}
theorem same_upd {H H' : Hp} {l : Addr} (s : Same H H') (n : H l = none) (o : HO) : Same H (upd H' l o) := fun b u q => by rw [upd_ne (ne_of_none q n)]; exact s b u q
theorem ts_lst {H : Hp} {l : Addr} {xs ys : List V} (h : H l = some (.lst xs)) : TS H (upd H l (.lst ys)) := fun a us q => by
  have ne : a ≠ l := fun z => by rw [z, h] at q; cases q
  rw [upd_ne ne]
  exact q
theorem krs_headed (ks : List KR) : ∀ d ∈ ks.map KR.d, Headed d := fun d hd => by
  obtain ⟨r, _, rfl⟩ := List.mem_map.mp hd
  exact ⟨_, _, rfl⟩
theorem krs_find {ks : List KR} {k : Str} {r : KR} (e : row ks k = some r) : (ks.map KR.d).find? (headIs k) = some r.d := by
  rw [List.find?_map]
  have : (headIs k ∘ KR.d) = fun r : KR => decide (r.nm = k) := rfl
  rw [this]
  show (row ks k).map KR.d = some r.d
  rw [e]
  rfl
/-- kinds are handed in as a tuple -/
abbrev KsAt (H : Hp) (v : V) (ks : List KR) : Prop := Im H v (.tuple (ks.map KR.d))
def spKindTold : Sp := fun vs H Q _ => ∃ (v : V) (k : Str) (ks : List KR) (r : KR), vs = [v, .str k] ∧ KsAt H v ks ∧ row ks k = some r ∧ ∀ u, Im H u r.d → Q u H
theorem calPKindTold (T : Txt K mg) : C8.Cal P w K mg base 1 "kind_told" spKindTold [] := by
  refine mkCal T.fPKindTold scPKindTold T.glo_kind_told (fun _ _ _ _ _ _ us hl => match us, hl with | [_, _], _ => rfl) (fun vs H Q E h => ?_) (fun cdv A outer s H vs Q E hr h => ?_)
  · obtain ⟨v, n, ks, r, rfl, _⟩ := h
    rfl
  obtain ⟨v, n, ks, r, rfl, hv, hrow, q⟩ := h
  have hh := krs_headed ks
  have hf := krs_find hrow
  replace hv : Im H v (.tuple (ks.map KR.d)) := hv
  generalize ks.map KR.d = ds at hv hh hf
  generalize r.d = d at q hf
  obtain ⟨a, xs, rfl, ha, hs⟩ := hv.tupE
  refine ⟨_, PSs.nox (pss_cons (ps_for PassesOwn.never rfl (pi_tup (pv 0)) (pg_name (i := 2) scPKindTold.nd rfl (Or.inl rfl))
        (pss_one (ps_if (pt_cmpR op_eq (pe_ix (ix_tupK (K := K) rfl) (pv 2) pe_int (fun _ _ => rfl)) (pv 1) (nomark _)) (pss_one (ps_ret (pv 2))) pss_nil)))
      (pss_one (ps_ret pe_non))), ?_⟩
  refine ⟨_, rfl, a, rfl, ⟨_, SqT.of ha⟩, for_it (walk_tup (K := K) (a := a) (xs := xs)) (fun i σ H' => H' = H ∧ (∃ c, σ = [some (.ref a), some (.str n), c]) ∧ ∀ j e, j < i → ds[j]? = some e → headIs n e = false)
    ⟨rfl, ⟨_, rfl⟩, fun j e hj => absurd hj (Nat.not_lt_zero j)⟩ (fun i σ H' _ hP => by rw [hP.1]; exact SqT.of ha) ?_ ?_⟩
  · rintro i x σ H1 H2 hi ⟨rfl, ⟨c, rfl⟩, hb⟩ ⟨rfl, hx⟩
    obtain ⟨e, he, ix⟩ := hs.of hx
    obtain ⟨y, l, rfl⟩ := hh e (List.mem_of_getElem? he)
    obtain ⟨b, v1, us, rfl, hb2, i1, _⟩ := ix.tHead
    cases i1.strE
    refine ⟨_, rfl, _, _, _, _, rfl, rfl, SqT.of hb2, at0, _, rfl, rfl, _, rfl, ite2 (fun c1 => ?_) (fun c1 => ?_)⟩
    · have e1 : y = n := V.str.inj (of_decide_eq_true c1)
      refine ⟨_, rfl, q _ ?_⟩
      have : d = .tuple (.str y :: l) := by
        have hl : i < ds.length := (List.getElem?_eq_some_iff.mp he).1
        have e2 : ds.find? (headIs n) = some (.tuple (.str y :: l)) := by
          refine List.find?_eq_some_iff_getElem.mpr ⟨by simp [headIs, e1], i, hl, (List.getElem?_eq_some_iff.mp he).2, fun j hj => ?_⟩
          have := hb j ds[j] hj (by rw [List.getElem?_eq_getElem])
          simp [this]
        rw [hf] at e2
        exact Option.some.inj e2
      rw [this]
      exact ix
    · have e1 : ¬ y = n := fun z => c1 (decide_eq_true (by rw [z]))
      refine ⟨rfl, ⟨_, rfl⟩, fun j e hj h => ?_⟩
      by_cases hj2 : j = i
      · subst hj2
        rw [he] at h
        cases h
        simp [headIs, e1]
      · exact hb j e (by omega) h
  · rintro σ H1 ⟨rfl, _, hb⟩
    exfalso
    obtain ⟨m, he⟩ := List.find?_eq_some_iff_append.mp hf
    obtain ⟨as, bs, e, _⟩ := he
    have hl : as.length < xs.length := by
      rw [hs.length, e, List.length_append, List.length_cons]
      omega
    have := hb as.length d hl (by rw [e]; simp)
    rw [this] at m
    cases m
def spSortOf : Sp := fun vs H Q _ => ∃ (v : V) (k : Str) (ks : List KR) (r : KR), vs = [v, .str k] ∧ KsAt H v ks ∧ row ks k = some r ∧ Q (.str (sortS r.alt)) H
theorem calPSortOf (T : Txt K mg) : C8.Cal P w K mg base 2 "sort_of" spSortOf [] := by
  refine mkCal T.fPSortOf scPSortOf T.glo_sort_of (fun _ _ _ _ _ _ us hl => match us, hl with | [_, _], _ => rfl) (fun vs H Q E h => ?_) (fun cdv A outer s H vs Q E hr h => ?_)
  · obtain ⟨v, n, ks, r, rfl, _⟩ := h
    rfl
  obtain ⟨v, n, ks, r, rfl, hv, hrow, q⟩ := h
  have cPKindTold := calPKindTold (P := P) (w := w) (base := base) T
  refine ⟨_, PSs.nox (pss_cons (ps_set (i := 2) scPSortOf.nd rfl (Or.inl rfl) (C8.pe_c cPKindTold hr (by omega) rfl (pa_cons (pv 0) (pa_cons (pv 1) pa_nil))))
      (pss_cons (ps_if (pt_cmpR op_isN (pv 2) pe_non (nomark _)) (pss_one (ps_ret pe_non)) pss_nil)
      (pss_one (ps_ret (pe_ix (ix_tupK (K := K) rfl) (pv 2) pe_int (fun _ _ => rfl)))))), ?_⟩
  refine ⟨_, rfl, _, rfl, v, n, ks, r, rfl, hv, hrow, fun u iu => ?_⟩
  obtain ⟨a, v1, v2, v3, rfl, ha, i1, i2, i3⟩ := iu.t3
  cases i2.strE
  refine ⟨_, rfl, rfl, _, rfl, iteF ?_⟩
  exact ⟨_, rfl, _, _, _, _, rfl, rfl, SqT.of ha, at1, q⟩
def spPartsOf : Sp := fun vs H Q _ => ∃ (v : V) (k : Str) (ks : List KR) (r : KR), vs = [v, .str k] ∧ KsAt H v ks ∧ row ks k = some r ∧ ∀ u, Im H u (.tuple (r.ps.map partD)) → Q u H
theorem calPPartsOf (T : Txt K mg) : C8.Cal P w K mg base 2 "parts_of" spPartsOf [] := by
  refine mkCal T.fPPartsOf scPPartsOf T.glo_parts_of (fun _ _ _ _ _ _ us hl => match us, hl with | [_, _], _ => rfl) (fun vs H Q E h => ?_) (fun cdv A outer s H vs Q E hr h => ?_)
  · obtain ⟨v, n, ks, r, rfl, _⟩ := h
    rfl
  obtain ⟨v, n, ks, r, rfl, hv, hrow, q⟩ := h
  have cPKindTold := calPKindTold (P := P) (w := w) (base := base) T
  refine ⟨_, PSs.nox (pss_one (ps_ret (pe_ix (ix_tupK (K := K) rfl) (C8.pe_c cPKindTold hr (by omega) rfl (pa_cons (pv 0) (pa_cons (pv 1) pa_nil))) pe_int (fun _ _ => rfl)))), ?_⟩
  refine ⟨_, rfl, _, rfl, v, n, ks, r, rfl, hv, hrow, fun u iu => ?_⟩
  obtain ⟨a, v1, v2, v3, rfl, ha, i1, i2, i3⟩ := iu.t3
  exact ⟨_, _, _, _, rfl, rfl, SqT.of ha, at2, q _ i3⟩
end
/-! ### makes -/
structure Ch where
  nm : Str
  fr : Str
  to : Str
  kd : Str
structure Hd where
  nm : Str
  bx : List (Str × Str)
  rows : List PyData
structure Make where
  ks : List KR
  cs : List Ch
  hs : List Hd
def Ch.d (c : Ch) : PyData := .tuple [.str c.nm, .str c.fr, .str c.to, .str c.kd]
def Hd.d (h : Hd) : PyData := .tuple [.str h.nm, .tuple (h.bx.map partD), .tuple h.rows]
def Make.d (m : Make) : PyData := .tuple [.tuple (m.ks.map KR.d), .tuple (m.cs.map Ch.d), .tuple (m.hs.map Hd.d)]
def handOf (m : Make) (h : Str) : Option Hd := m.hs.find? fun x => decide (x.nm = h)
theorem hds_headed (hs : List Hd) : ∀ d ∈ hs.map Hd.d, Headed d := fun d hd => by
  obtain ⟨r, _, rfl⟩ := List.mem_map.mp hd
  exact ⟨_, _, rfl⟩
theorem hds_find {m : Make} {h : Str} {x : Hd} (e : handOf m h = some x) : (m.hs.map Hd.d).find? (headIs h) = some x.d := by
  rw [List.find?_map]
  have : (headIs h ∘ Hd.d) = fun r : Hd => decide (r.nm = h) := rfl
  rw [this]
  show (handOf m h).map Hd.d = some x.d
  rw [e]
  rfl
/-- what stands behind a row -/
def leadD (k : Nat) (r : PyData) : PyData :=
  if sOf ((tOf r).getD 0 .none) = "go" then .tuple [(tOf r).getD 1 .none] else if sOf ((tOf r).getD 0 .none) = "if" then .tuple [(tOf r).getD 2 .none, .int ((k : Int) + 1)] else if sOf ((tOf r).getD 0 .none) = "end" then .tuple [] else .tuple [.int ((k : Int) + 1)]
def leads (rs : List PyData) : List PyData := rs.mapIdx leadD
/-- a row's shape: its word, a go with its row, an if with two -/
def RowSh (r : PyData) : Prop := ∃ x l, r = .tuple (.str x :: l) ∧ (x = "go" → ∃ a, l = [a]) ∧ (x = "if" → ∃ a b, l = [a, b])
section
variable {P : Program} {w : World} {K : PySem.W.Frag} {mg : Str → Option Value} {base : Heap}
def spHandOf : Sp := fun vs H Q _ => ∃ (v : V) (h : Str) (m : Make) (x : Hd), vs = [v, .str h] ∧ Im H v m.d ∧ handOf m h = some x ∧ ∀ u, Im H u x.d → Q u H
theorem calPHandOf (T : Txt K mg) : C8.Cal P w K mg base 2 "hand_of" spHandOf [] := by
  refine mkCal T.fPHandOf scPHandOf T.glo_hand_of (fun _ _ _ _ _ _ us hl => match us, hl with | [_, _], _ => rfl) (fun vs H Q E h => ?_) (fun cdv A outer s H vs Q E hr h => ?_)
  · obtain ⟨v, n, ks, r, rfl, _⟩ := h
    rfl
  obtain ⟨v, n, m, x, rfl, hv, hh, q⟩ := h
  have cPNamed := calPNamed (P := P) (w := w) (base := base) T
  obtain ⟨a, v1, v2, v3, rfl, ha, i1, i2, i3⟩ := hv.t3
  refine ⟨_, PSs.nox (pss_one (ps_ret (C8.pe_c cPNamed hr (by omega) rfl (pa_cons (pe_ix (ix_tupK (K := K) rfl) (pv 0) pe_int (fun _ _ => rfl)) (pa_cons (pv 1) pa_nil))))), ?_⟩
  exact ⟨_, rfl, _, _, _, _, rfl, rfl, SqT.of ha, at2, _, rfl, v3, n, _, _, rfl, i3, hds_headed m.hs, hds_find hh, q⟩
def spWaysOf : Sp := fun vs H Q _ => ∃ (v : V) (rs : List PyData), vs = [v] ∧ Im H v (.tuple rs) ∧ (∀ r ∈ rs, RowSh r) ∧ rs.length ≤ 1000 ∧ ∀ (l : Addr) (ls : List V) (H' : Hp), Same H H' → H l = none → H' l = some (.lst ls) → Ims H' ls (leads rs) → Q (.ref l) H'
theorem sz {n : Nat} (h : Nat.ble n 1000 = true := by rfl) : n ≤ sizeLine := Nat.le_of_lt (small1000 (Nat.le_of_ble_eq_true h))
theorem calPWaysOf (T : Txt K mg) : C8.Cal P w K mg base 1 "ways_of" spWaysOf [] := by
  refine mkCal T.fPWaysOf scPWaysOf T.glo_ways_of (fun _ _ _ _ _ _ us hl => match us, hl with | [_], _ => rfl) (fun vs H Q E h => ?_) (fun cdv A outer s H vs Q E hr h => ?_)
  · obtain ⟨v, rs, rfl, _⟩ := h
    rfl
  obtain ⟨v, rs, rfl, hv, hsh, hlen, q⟩ := h
  obtain ⟨a, xs, rfl, ha, hs⟩ := hv.tupE
  have hl := hs.length
  refine ⟨_, PSs.nox (pss_cons (ps_set (i := 1) scPWaysOf.nd rfl (Or.inl rfl) (pe_lst pa_nil))
      (pss_cons (ps_for PassesOwn.never rfl (pi_enumT rfl T.free_enumerate (pa_cons (pv 0) pa_nil)) (pg_tupK (K := K) (n := 2) rfl rfl (pgs_cons (pg_name (i := 2) scPWaysOf.nd rfl (Or.inl rfl)) (pgs_cons (pg_name (i := 3) scPWaysOf.nd rfl (Or.inl rfl)) pgs_nil)))
        (pss_one (ps_if (pt_cmpR op_eq (pe_ix (ix_tupK (K := K) rfl) (pv 3) pe_int (fun _ _ => rfl)) pe_str (nomark _)) (pss_one (ps_expr (pe_bm PySem.F.plainAttrs_list PySem.F.slot_list_append PySem.F.type_list_append mt_append (pv 1) (pa_cons (pe_tup (pa_cons (pe_ix (ix_tupK (K := K) rfl) (pv 3) pe_int (fun _ _ => rfl)) pa_nil)) pa_nil)))) (pss_one (ps_if (pt_cmpR op_eq (pe_ix (ix_tupK (K := K) rfl) (pv 3) pe_int (fun _ _ => rfl)) pe_str (nomark _)) (pss_one (ps_expr (pe_bm PySem.F.plainAttrs_list PySem.F.slot_list_append PySem.F.type_list_append mt_append (pv 1) (pa_cons (pe_tup (pa_cons (pe_ix (ix_tupK (K := K) rfl) (pv 3) pe_int (fun _ _ => rfl)) (pa_cons (pe_op op_add (pv 2) pe_int) pa_nil))) pa_nil)))) (pss_one (ps_if (pt_cmpR op_eq (pe_ix (ix_tupK (K := K) rfl) (pv 3) pe_int (fun _ _ => rfl)) pe_str (nomark _)) (pss_one (ps_expr (pe_bm PySem.F.plainAttrs_list PySem.F.slot_list_append PySem.F.type_list_append mt_append (pv 1) (pa_cons (pe_tup pa_nil) pa_nil)))) (pss_one (ps_expr (pe_bm PySem.F.plainAttrs_list PySem.F.slot_list_append PySem.F.type_list_append mt_append (pv 1) (pa_cons (pe_tup (pa_cons (pe_op op_add (pv 2) pe_int) pa_nil)) pa_nil)))))))))))
      (pss_one (ps_ret (pv 1))))), ?_⟩
  refine ⟨sz, fun l nl => ?_⟩
  refine ⟨_, rfl, a, xs, rfl, SqT.of (same_new nl _ _ _ ha), for_it (walk_enumT (K := K) (a := a) (xs := xs)) (fun i σ H' => ∃ ls c1 c2, Same H H' ∧ σ = [some (.ref a), some (.ref l), c1, c2] ∧ H' l = some (.lst ls) ∧ Ims H' ls ((leads rs).take i) ∧ ls.length = i)
    ⟨[], none, none, same_new nl _, rfl, upd_same, by rw [List.take_zero]; exact .nil, rfl⟩ (fun i σ H' _ ⟨_, _, _, s, _⟩ => SqT.of (s _ _ ha)) ?_ ?_⟩
  · rintro i x σ H1 H2 hi ⟨ls, c1, c2, s1, rfl, hl1, im, el⟩ ⟨Tp, k, y, rfl, nT, rfl, hk, hy⟩
    cases hk
    have h2a : upd H1 Tp (.tup [.int (i : Nat), y]) Tp = some (.tup [.int (i : Nat), y]) := upd_same
    have t2 : TS H1 (upd H1 Tp (.tup [.int (i : Nat), y])) := ts_new nT
    have s2 : Same H (upd H1 Tp (.tup [.int (i : Nat), y])) := fun b u e => same_new nT _ _ _ (s1 b u e)
    have hl2 : upd H1 Tp (.tup [.int (i : Nat), y]) l = some (.lst ls) := same_new nT _ _ _ hl1
    have im2 := im.mono t2
    generalize upd H1 Tp (.tup [.int (i : Nat), y]) = H2 at h2a t2 s2 hl2 im2
    obtain ⟨r, hr0, ir⟩ := hs.of hy
    have hil : i < rs.length := (List.getElem?_eq_some_iff.mp hr0).1
    have eL : (leads rs)[i]? = some (leadD i r) := by rw [leads, List.getElem?_mapIdx, hr0]; rfl
    have take_succ : (leads rs).take (i + 1) = (leads rs).take i ++ [leadD i r] := by rw [List.take_succ, eL]; rfl
    obtain ⟨x, ll, rfl, hgo, hif⟩ := hsh r (List.mem_of_getElem? hr0)
    have ir2 : Im H2 y (.tuple (.str x :: ll)) := ir.mono (TS.trans (ts_same s1) t2)
    obtain ⟨b, v1, us, rfl, hb2, i1, ius⟩ := ir2.tHead
    cases i1.strE
    have lsz : ls.length < sizeLine := small1000 (by omega)
    -- the end of each way: a new tuple with the lead, put behind
    have fin : ∀ (p : Addr) (zs : List V) (H3 : Hp), H2 p = none → H3 = upd H2 p (.tup zs) → Im H3 (.ref p) (leadD i (.tuple (.str x :: ll))) →
        ∃ ls' c1' c2', Same H (upd H3 l (.lst (ls ++ [.ref p]))) ∧ [some (V.ref a), some (.ref l), some (.int (i : Nat)), some (.ref b)] = [some (V.ref a), some (.ref l), c1', c2'] ∧ upd H3 l (.lst (ls ++ [.ref p])) l = some (.lst ls') ∧
          Ims (upd H3 l (.lst (ls ++ [.ref p]))) ls' ((leads rs).take (i + 1)) ∧ ls'.length = i + 1 := by
      rintro p zs H3 np rfl iL
      have hl3 : upd H2 p (.tup zs) l = some (.lst ls) := same_new np _ _ _ hl2
      have s3 : Same H (upd H2 p (.tup zs)) := fun b u e => same_new np _ _ _ (s2 b u e)
      have t3 : TS (upd H2 p (.tup zs)) (upd (upd H2 p (.tup zs)) l (.lst (ls ++ [.ref p]))) := ts_lst hl3
      refine ⟨_, _, _, same_upd s3 nl _, rfl, upd_same, ?_, by simp [el]⟩
      rw [take_succ]
      exact ((im2.mono (ts_new np)).mono t3).snoc (iL.mono t3)
    refine ⟨_, _, rfl, SqT.of h2a, rfl, _, _, rfl, _, _, rfl, rfl, ?_⟩
    refine ⟨_, rfl, _, _, _, _, rfl, rfl, SqT.of hb2, at0, rfl, _, rfl, ite2 (fun c => ?_) (fun c => ?_)⟩
    · have e1 : x = "go" := V.str.inj (of_decide_eq_true c)
      obtain ⟨d1, rfl⟩ := hgo e1
      obtain ⟨v2, us', rfl, i2, _⟩ := ius.tail
      refine ⟨_, rfl, Or.inl ⟨rfl, _, SqL.of hl2⟩, _, rfl, _, _, _, _, rfl, rfl, SqT.of hb2, at1, sz, fun p np => ⟨l, ls, _, rfl, rfl, same_new np _ _ _ hl2, lsz, ?_⟩⟩
      refine fin p _ _ np rfl ?_
      rw [leadD, if_pos (show sOf ((tOf (.tuple [.str x, d1])).getD 0 .none) = "go" from e1)]
      exact .tup upd_same (.cons (i2.mono (ts_new np)) .nil)
    · have n1 : x ≠ "go" := fun z => c (decide_eq_true (by rw [z]))
      refine ⟨_, rfl, _, _, _, _, rfl, rfl, SqT.of hb2, at0, rfl, _, rfl, ite2 (fun c => ?_) (fun c => ?_)⟩
      · have e1 : x = "if" := V.str.inj (of_decide_eq_true c)
        obtain ⟨d1, d2, rfl⟩ := hif e1
        obtain ⟨v2, us', rfl, i2, ius2⟩ := ius.tail
        obtain ⟨v3, us', rfl, i3, _⟩ := ius2.tail
        refine ⟨_, rfl, Or.inl ⟨rfl, _, SqL.of hl2⟩, _, rfl, _, _, _, _, rfl, rfl, SqT.of hb2, at2, _, rfl, _, _, rfl, rfl, sz, fun p np => ⟨l, ls, _, rfl, rfl, same_new np _ _ _ hl2, lsz, ?_⟩⟩
        refine fin p _ _ np rfl ?_
        rw [leadD, if_neg (show ¬ sOf ((tOf (.tuple [.str x, d1, d2])).getD 0 .none) = "go" from n1), if_pos (show sOf ((tOf (.tuple [.str x, d1, d2])).getD 0 .none) = "if" from e1)]
        exact .tup upd_same (.cons (i3.mono (ts_new np)) (.cons (.int _) .nil))
      · have n2 : x ≠ "if" := fun z => c (decide_eq_true (by rw [z]))
        refine ⟨_, rfl, _, _, _, _, rfl, rfl, SqT.of hb2, at0, rfl, _, rfl, ite2 (fun c => ?_) (fun c => ?_)⟩
        · have e1 : x = "end" := V.str.inj (of_decide_eq_true c)
          refine ⟨_, rfl, Or.inl ⟨rfl, _, SqL.of hl2⟩, sz, fun p np => ⟨l, ls, _, rfl, rfl, same_new np _ _ _ hl2, lsz, ?_⟩⟩
          refine fin p _ _ np rfl ?_
          rw [leadD, if_neg (show ¬ sOf ((tOf (.tuple (.str x :: ll))).getD 0 .none) = "go" from n1), if_neg (show ¬ sOf ((tOf (.tuple (.str x :: ll))).getD 0 .none) = "if" from n2), if_pos (show sOf ((tOf (.tuple (.str x :: ll))).getD 0 .none) = "end" from e1)]
          exact .tup upd_same .nil
        · have n3 : x ≠ "end" := fun z => c (decide_eq_true (by rw [z]))
          refine ⟨_, rfl, Or.inl ⟨rfl, _, SqL.of hl2⟩, _, rfl, _, _, rfl, rfl, sz, fun p np => ⟨l, ls, _, rfl, rfl, same_new np _ _ _ hl2, lsz, ?_⟩⟩
          refine fin p _ _ np rfl ?_
          rw [leadD, if_neg (show ¬ sOf ((tOf (.tuple (.str x :: ll))).getD 0 .none) = "go" from n1), if_neg (show ¬ sOf ((tOf (.tuple (.str x :: ll))).getD 0 .none) = "if" from n2), if_neg (show ¬ sOf ((tOf (.tuple (.str x :: ll))).getD 0 .none) = "end" from n3)]
          exact .tup upd_same (.cons (.int _) .nil)
  · rintro σ H1 ⟨ls, c1, c2, s1, rfl, hl1, im, _⟩
    refine ⟨_, rfl, q l ls H1 s1 nl hl1 ?_⟩
    rw [List.take_of_length_le (by rw [leads, List.length_mapIdx, hl]; exact Nat.le_refl _)] at im
    exact im
end
end Sw
set_option Elab.async false
set_option linter.all false
set_option maxRecDepth 100000
set_option maxHeartbeats 4000000
/-! Values: field, nought, worth_of_two, worth_of_case, worth. -/
namespace Sw
open PySem PySem.Spec PyProof.Rows L2
theorem lcYes {σ : L2.St} {H : Hp} {A B : Hp → Prop} (h : A H) : tYes σ H (fun b H3 => if b = true then A H3 else B H3) := by
  show (if true = true then A H else B H)
  exact iteT h
/-- nothing is promised, and nothing asked -/
def spF : Sp := fun _ _ _ _ => False
/-! ### boxes -/
def Bx (H : Hp) (kvs : List (Key × V)) (r : EnvD) : Prop := Paired (fun (p : Key × V) (q : Str × PyData) => p.1 = Sum.inr q.1 ∧ Im H p.2 q.2) kvs r
theorem Bx.mono {H H' : Hp} (t : TS H H') {kvs : List (Key × V)} {r : EnvD} (b : Bx H kvs r) : Bx H' kvs r := Paired.mapP b fun _ _ h => ⟨h.1, h.2.mono t⟩
theorem Bx.length {H : Hp} {kvs : List (Key × V)} {r : EnvD} (b : Bx H kvs r) : kvs.length = r.length := Paired.length b
theorem inr_iff {a b : Str} : ((Sum.inr a : Key) = Sum.inr b) ↔ a = b := ⟨fun h => Sum.inr.inj h, fun h => by rw [h]⟩
theorem Bx.get {H : Hp} {kvs : List (Key × V)} {r : EnvD} (b : Bx H kvs r) {x : Str} {d : PyData} (e : lookA r x = some d) : ∃ v, valV kvs (Sum.inr x : Key) = some v ∧ Im H v d := by
  unfold Bx at b
  induction b with
  | nil => cases e
  | @cons p q ps qs h t ih =>
    by_cases c : q.1 = x
    · rw [lookA, List.find?_cons, decide_eq_true c] at e
      simp at e
      subst e
      exact ⟨p.2, valV_pos (by rw [h.1, c]), h.2⟩
    · rw [lookA, List.find?_cons, decide_eq_false c] at e
      obtain ⟨v, h1, h2⟩ := ih e
      exact ⟨v, by rw [valV_neg (by rw [h.1]; exact fun z => c (Sum.inr.inj z))]; exact h1, h2⟩
theorem Bx.any {H : Hp} {kvs : List (Key × V)} {r : EnvD} (b : Bx H kvs r) (x : Str) : (kvs.any fun kv => decide (kv.1 = (Sum.inr x : Key))) = r.any fun p => decide (p.1 = x) := by
  unfold Bx at b
  induction b with
  | nil => rfl
  | @cons p q ps qs h t ih =>
    rw [List.any_cons, List.any_cons, ih, h.1]
    congr 1
    exact decide_eq_decide.mpr inr_iff
theorem Bx.put {H : Hp} {kvs : List (Key × V)} {r : EnvD} (b : Bx H kvs r) {x : Str} {v : V} {d : PyData} (i : Im H v d) : Bx H (putK kvs (Sum.inr x : Key) v) (putA r x d) := by
  unfold putK putA
  rw [b.any x]
  by_cases c : (r.any fun p => decide (p.1 = x)) = true
  · rw [if_pos c, if_pos c]
    clear c
    unfold Bx at b ⊢
    induction b with
    | nil => exact .nil
    | @cons p q ps qs h t ih =>
      rw [List.map_cons, List.map_cons]
      refine .cons ?_ ih
      by_cases c : q.1 = x
      · rw [if_pos (by rw [h.1, c]), if_pos c]
        exact ⟨h.1, i⟩
      · rw [if_neg (by rw [h.1]; exact fun z => c (Sum.inr.inj z)), if_neg c]
        exact h
  · rw [if_neg c, if_neg c]
    exact Paired.snoc b ⟨rfl, i⟩
theorem lookA_put {r : EnvD} {x y : Str} {d : PyData} : lookA (putA r x d) y = if y = x then some d else lookA r y := by
  induction r with
  | nil =>
    by_cases c : x = y
    · subst c
      simp [lookA, putA]
    · have c2 : ¬ y = x := fun z => c z.symm
      simp [lookA, putA, c, c2]
  | cons p r ih =>
    unfold putA at ih ⊢
    rw [List.any_cons]
    by_cases c : p.1 = x
    · rw [decide_eq_true c, Bool.true_or, if_pos rfl, List.map_cons, if_pos c]
      unfold lookA
      rw [List.find?_cons, List.find?_cons]
      by_cases c2 : y = x
      · rw [if_pos c2]
        simp [c, c2]
      · rw [if_neg c2]
        have n1 : ¬ p.1 = y := fun z => c2 (by rw [← z, c])
        simp only [decide_eq_false n1]
        by_cases c3 : (r.any fun p => decide (p.1 = x)) = true
        · rw [if_pos c3] at ih
          unfold lookA at ih
          rw [ih, if_neg c2]
        · have e : r.map (fun p => if p.1 = x then (p.1, d) else p) = r := by
            clear ih
            induction r with
            | nil => rfl
            | cons q r ih2 =>
              rw [List.any_cons, Bool.or_eq_true, not_or] at c3
              rw [List.map_cons, ih2 c3.2, if_neg (by simpa using c3.1)]
          rw [e]
    · rw [decide_eq_false c, Bool.false_or]
      by_cases c3 : (r.any fun p => decide (p.1 = x)) = true
      · rw [if_pos c3, List.map_cons, if_neg c]
        rw [if_pos c3] at ih
        unfold lookA at ih ⊢
        rw [List.find?_cons, List.find?_cons]
        by_cases c4 : p.1 = y
        · rw [decide_eq_true c4]
          have : ¬ y = x := fun z => c (by rw [c4, z])
          rw [if_neg this]
        · rw [decide_eq_false c4]
          exact ih
      · rw [if_neg c3]
        rw [if_neg c3] at ih
        unfold lookA at ih ⊢
        rw [List.cons_append, List.find?_cons, List.find?_cons]
        by_cases c4 : p.1 = y
        · rw [decide_eq_true c4]
          have : ¬ y = x := fun z => c (by rw [c4, z])
          rw [if_neg this]
        · rw [decide_eq_false c4]
          exact ih
theorem putA_len {r : EnvD} {x : Str} {d : PyData} : (putA r x d).length ≤ r.length + 1 := by
  unfold putA
  split
  · rw [List.length_map]
    omega
  · rw [List.length_append, List.length_singleton]
    omega
/-- the boxes hold what their kinds ask -/
def EnvOk (ks : List KR) (g : Ctx) (r : EnvD) : Prop := ∀ p ∈ g, ∃ d, lookA r p.1 = some d ∧ VOk ks p.2 d
theorem EnvOk.put {ks : List KR} {g : Ctx} {r : EnvD} (h : EnvOk ks g r) {x k : Str} {d : PyData} (n : ∀ q ∈ g, q.1 ≠ x) (v : VOk ks k d) : EnvOk ks (g ++ [(x, k)]) (putA r x d) := by
  intro p hp
  rw [List.mem_append, List.mem_singleton] at hp
  rcases hp with hp | rfl
  · obtain ⟨e, h1, h2⟩ := h p hp
    exact ⟨e, by rw [lookA_put, if_neg (n p hp)]; exact h1, h2⟩
  · exact ⟨d, by rw [lookA_put, if_pos rfl], v⟩
section
variable {P : Program} {w : World} {K : PySem.W.Frag} {mg : Str → Option Value} {base : Heap}
theorem calF {x : Str} {params : Arguments} {body : List Stmt} {scope : Scope} {f : Addr} {ps : List Str} (F : ∃ fd, FunD K x x params body scope [] [] f fd) (hm : mg x = some (.ref f))
    (hb : ∀ (kV doc pm : Value) (an : Option Addr) (cdv ct : Value) (us : List Value), us.length = ps.length → bindArgs (PySem.W.fnOf x x params body scope .none kV doc pm an cdv ct) ⟨us, []⟩ = pure (ps.zip us)) : C8.Cal P w K mg base 0 x spF [] := by
  obtain ⟨fd, F⟩ := F
  exact ⟨f, fd, ps, [], ⟨fun _ _ _ _ h => h.elim, fun _ _ _ _ _ _ _ _ _ _ _ _ _ h => h.elim⟩, hm, F.kp, F.bindsN hb, .nil⟩
def spField : Sp := fun vs H Q _ => ∃ (kv v : V) (f k : Str) (ks : List KR) (r : KR) (us : List PyData) (j : Nat) (x : PyData), vs = [kv, v, .str f] ∧ KsAt H kv ks ∧ row ks k = some r ∧ r.ps.length ≤ 4 ∧ Im H v (.tuple [.str k, .tuple us]) ∧
  (r.ps.map (·.1))[j]? = some f ∧ (∀ m z, m < j → (r.ps.map (·.1))[m]? = some z → z ≠ f) ∧ us[j]? = some x ∧ ∀ u H', Same H H' → Im H' u x → Q u H'
theorem calPField (T : Txt K mg) : C8.Cal P w K mg base 3 "field" spField [] := by
  refine mkCal T.fPField scPField T.glo_field (fun _ _ _ _ _ _ us hl => match us, hl with | [_, _, _], _ => rfl) (fun vs H Q E h => ?_) (fun cdv A outer s H vs Q E hr h => ?_)
  · obtain ⟨kv, v, f, k, ks, r, us, j, x, rfl, _⟩ := h
    rfl
  obtain ⟨kv, v, f, k, ks, r, us, j, x, rfl, hk, hrow, h4, hv, hj, hfirst, hx, q⟩ := h
  have cPPartsOf := calPPartsOf (P := P) (w := w) (base := base) T
  obtain ⟨a, v1, v2, rfl, ha, i1, i2⟩ := hv.t2
  cases i1.strE
  obtain ⟨b, ys, rfl, hb, iys⟩ := i2.tupE
  refine ⟨_, PSs.nox (pss_cons (ps_setLc (own := [("part", 4)]) (i := 3) rfl scPField.nd rfl rfl (sw_true rfl rfl rfl (by decide +kernel)) (pi_tup (C8.pe_c cPPartsOf hr (by omega) rfl (pa_cons (pv 0) (pa_cons (pe_ix (ix_tupK (K := K) rfl) (pv 1) pe_int (fun _ _ => rfl)) pa_nil)))) (blkOk_by (N := nPField) (sc := defScope sPField) (by decide +kernel)) (fun _ _ _ _ _ => pg_name (i := 4) scPField.nd rfl (Or.inl rfl)) (fun _ _ _ _ _ => pts_nil) (fun _ _ _ _ _ => pe_ix (ix_tupK (K := K) rfl) (pv 4) pe_int (fun _ _ => rfl)))
      (pss_one (ps_ret (pe_ix (ix_tupK (K := K) rfl) (pe_ix (ix_tupK (K := K) rfl) (pv 1) pe_int (fun _ _ => rfl)) (pe_bm PySem.F.plainAttrs_list PySem.F.slot_list_index PySem.F.type_list_index mt_index (pv 3) (pa_cons (pv 2) pa_nil)) (fun _ _ => rfl))))), ?_⟩
  refine ⟨_, rfl, _, rfl, _, _, _, _, rfl, rfl, SqT.of ha, at0, kv, k, ks, r, rfl, hk, hrow, fun u iu => ?_⟩
  obtain ⟨c, zs, rfl, hc, izs⟩ := iu.tupE
  have zl := izs.length
  rw [List.length_map] at zl
  refine ⟨c, rfl, ⟨_, SqT.of hc⟩, fun D nD => ?_⟩
  refine lc_it (walk_tup (K := K) (a := c) (xs := zs)) (fun i H' => Same H H' ∧ H' D = some (.lst (((r.ps.map (·.1)).take i).map V.str))) ⟨same_new nD _, by rw [List.take_zero]; exact upd_same⟩ (fun i H' _ hP => SqT.of (hP.1 _ _ hc)) ?_ ?_
  · rintro i y H1 H2 hi ⟨s1, hD⟩ ⟨rfl, hy⟩
    obtain ⟨d, hd, id⟩ := izs.of hy
    rw [List.getElem?_map] at hd
    obtain ⟨p, hp, rfl⟩ := Option.map_eq_some_iff.mp hd
    obtain ⟨e, w1, w2, rfl, he, j1, _⟩ := (id.mono (ts_same s1)).t2
    cases j1.strE
    refine ⟨rfl, lcYes ?_⟩
    refine ⟨_, rfl, _, _, _, _, rfl, rfl, SqT.of he, at0, _, hD, small1000 (by rw [List.length_map, List.length_take, List.length_map]; omega), same_upd s1 nD _, ?_⟩
    rw [upd_same]
    have e1 : (r.ps.map (·.1))[i]? = some p.1 := by rw [List.getElem?_map, hp]; rfl
    rw [List.take_succ, e1]
    simp
  · rintro H1 ⟨s1, hD⟩
    rw [List.take_of_length_le (by rw [List.length_map]; omega)] at hD
    have hfl : (((r.ps.map (·.1)).map V.str).all flatV) = true := List.all_eq_true.mpr fun z hz => by
      obtain ⟨y, _, rfl⟩ := List.mem_map.mp hz
      rfl
    obtain ⟨y, hy, iy⟩ := iys.at hx
    refine ⟨_, rfl, _, _, _, _, rfl, rfl, SqT.of (s1 _ _ ha), at1, _, rfl, Or.inl ⟨rfl, _, SqL.of hD⟩, _, rfl, D, _, .str f, j, .str f, rfl, rfl, SqL.of hD, rfl, hfl, by rw [List.getElem?_map, hj]; rfl, beq_self_eq_true _, fun m z hm hz => ?_, ?_⟩
    · rw [List.getElem?_map] at hz
      obtain ⟨y, hy2, rfl⟩ := Option.map_eq_some_iff.mp hz
      exact beq_eq_false_iff_ne.mpr (hfirst m y hm hy2)
    · exact ⟨_, _, _, _, rfl, rfl, SqT.of (s1 _ _ hb), atI_nat hy, q y H1 s1 (iy.mono (ts_same s1))⟩
/-- the nought of a kind that stands among the first n - 1 -/
def spNought (n : Nat) : Sp := fun vs H Q _ => ∃ (kv : V) (k : Str) (ks : List KR) (m : Nat), vs = [kv, .str k] ∧ n = m + 1 ∧ KsAt H kv ks ∧ KOk ks ∧ Kn ks m k ∧ ∀ u d H', Same H H' → Im H' u d → VOk ks k d → Q u H'
theorem Same.tr {H H1 H2 : Hp} (a : Same H H1) (b : Same H1 H2) : Same H H2 := fun c o h => b c o (a c o h)
theorem calPNought (T : Txt K mg) : ∀ n, C8.Cal P w K mg base (n + 3) "nought" (spNought n) []
  | 0 => by
    obtain ⟨f, fd, ps, ds, F, h2⟩ := (calF (P := P) (w := w) (base := base) T.fPNought T.glo_nought (fun _ _ _ _ _ _ us hl => match us, hl with | [_, _], _ => rfl) (ps := pPNought)).ex
    exact ⟨f, fd, ps, ds, (F.imp (sp' := spNought 0) (fun vs H Q E h => by obtain ⟨_, _, _, m, _, h0, _⟩ := h; omega)).mono (by omega), h2⟩
  | n + 1 => by
    have cPNought := calPNought T n
    have cPPartsOf := calPPartsOf (P := P) (w := w) (base := base) T
    have cPSortOf := calPSortOf (P := P) (w := w) (base := base) T
    refine mkCal (k := n + 3) T.fPNought scPNought T.glo_nought (fun _ _ _ _ _ _ us hl => match us, hl with | [_, _], _ => rfl) (fun vs H Q E h => ?_) (fun cdv A outer s H vs Q E hr h => ?_)
    · obtain ⟨kv, k, ks, m, rfl, _⟩ := h
      rfl
    obtain ⟨kv, k, ks, m, rfl, hm, hk, ok, kn, q⟩ := h
    obtain rfl : m = n := by omega
    refine ⟨_, PSs.nox (pss_cons (ps_if (pt_cmpR op_eq (pv 1) pe_str (nomark _)) (pss_one (ps_ret pe_int)) pss_nil)
      (pss_cons (ps_set (i := 2) scPNought.nd rfl (Or.inl rfl) (C8.pe_c cPPartsOf hr (by omega) rfl (pa_cons (pv 0) (pa_cons (pv 1) pa_nil))))
      (pss_cons (ps_if (pt_cmpR op_eq (C8.pe_c cPSortOf hr (by omega) rfl (pa_cons (pv 0) (pa_cons (pv 1) pa_nil))) pe_str (nomark _)) (pss_one (ps_ret (pe_tup (pa_cons (pv 1) (pa_cons (pe_callTy call_tuple_of (by rfl) T.free_tuple (by decide +kernel) (pa_cons (pe_lc (own := [("part", 3)])  rfl scPNought.nd (pi_tup (pv 2)) (blkOk_by (N := nPNought) (sc := defScope sPNought) (by decide +kernel)) (fun _ _ _ _ _ => pg_name (i := 3) scPNought.nd rfl (Or.inl rfl)) (fun _ _ _ _ _ => pts_nil) (fun _ _ _ _ _ => C8.pe_c cPNought hr (by omega) rfl (pa_cons (pv 0) (pa_cons (pe_ix (ix_tupK (K := K) rfl) (pv 3) pe_int (fun _ _ => rfl)) pa_nil)))) pa_nil)) pa_nil))))) pss_nil)
      (pss_one (ps_ret (pe_tup (pa_cons (pv 1) (pa_cons (pe_ix (ix_tupK (K := K) rfl) (pe_ix (ix_tupK (K := K) rfl) (pv 2) pe_int (fun _ _ => rfl)) pe_int (fun _ _ => rfl)) (pa_cons (C8.pe_c cPNought hr (by omega) rfl (pa_cons (pv 0) (pa_cons (pe_ix (ix_tupK (K := K) rfl) (pe_ix (ix_tupK (K := K) rfl) (pv 2) pe_int (fun _ _ => rfl)) pe_int (fun _ _ => rfl)) pa_nil))) pa_nil))))))))), ?_⟩
    refine ⟨_, rfl, rfl, _, rfl, ite2 (fun c => ?_) (fun c => ?_)⟩
    · have e1 : k = numK := V.str.inj (of_decide_eq_true c)
      subst e1
      exact q _ (.int 0) H same_refl (.int 0) (.num (by decide) (by decide))
    have n1 : k ≠ numK := fun z => c (decide_eq_true (by rw [z]; rfl))
    obtain ⟨m, rfl⟩ : ∃ j, m = j + 1 := by
      cases m with
      | zero => exact absurd (KOk.none0 kn) n1
      | succ j => exact ⟨j, rfl⟩
    obtain ⟨r, hrow, hps⟩ := ok.step kn n1
    obtain ⟨mem, rnm⟩ := row_mem hrow
    refine ⟨_, rfl, _, rfl, kv, k, ks, r, rfl, hk, hrow, fun u iu => ?_⟩
    obtain ⟨c2, zs, rfl, hc, izs⟩ := iu.tupE
    have zl := izs.length
    rw [List.length_map] at zl
    refine ⟨_, rfl, _, rfl, kv, k, ks, r, rfl, hk, hrow, rfl, _, rfl, ?_⟩
    cases ha : r.alt with
    | false =>
      refine strT (by decide +kernel) ?_
      refine ⟨_, rfl, _, rfl, c2, rfl, ⟨_, SqT.of hc⟩, fun D nD => ?_⟩
      refine lc_it (walk_tup (K := K) (a := c2) (xs := zs)) (fun i H' => Same H H' ∧ ∃ acc ds, H' D = some (.lst acc) ∧ Ims H' acc ds ∧ ds.length = i ∧ ∀ (j : Nat) (p : Str × Str) (v : PyData), r.ps[j]? = some p → ds[j]? = some v → VOk ks p.2 v)
        ⟨same_new nD _, [], [], upd_same, .nil, rfl, fun j p v _ h => by simp at h⟩ (fun i H' _ hP => SqT.of (hP.1 _ _ hc)) ?_ ?_
      · rintro i y H1 H2 hi ⟨s1, acc, ds, hD, ia, el, ok1⟩ ⟨rfl, hy⟩
        obtain ⟨d, hd, id⟩ := izs.of hy
        rw [List.getElem?_map] at hd
        obtain ⟨p, hp, rfl⟩ := Option.map_eq_some_iff.mp hd
        obtain ⟨e, w1, w2, rfl, he, _, j2⟩ := (id.mono (ts_same s1)).t2
        cases j2.strE
        refine ⟨rfl, lcYes ?_⟩
        refine ⟨_, rfl, _, rfl, _, _, _, _, rfl, rfl, SqT.of he, at1, kv, p.2, ks, m, rfl, rfl, hk.mono (ts_same s1), ok, hps p (List.mem_of_getElem? hp), fun u d H3 s3 iu vu => ?_⟩
        have nD' := s3 _ _ hD
        have al : acc.length = i := by rw [ia.length, el]
        refine ⟨acc, nD', small1000 (by have := (ok.pn r mem).2; omega), same_upd (Same.tr s1 s3) nD _, acc ++ [u], ds ++ [d], upd_same, ((ia.mono (ts_same s3)).snoc iu).mono (ts_lst nD'), by simp [el], fun j p2 v h1 h2 => ?_⟩
        by_cases hj : j < ds.length
        · rw [List.getElem?_append_left hj] at h2
          exact ok1 j p2 v h1 h2
        · rw [List.getElem?_append_right (by omega)] at h2
          have hj2 : j = i := by
            have := (List.getElem?_eq_some_iff.mp h2).1
            simp at this
            omega
          subst hj2
          rw [el, Nat.sub_self] at h2
          simp at h2
          subst h2
          rw [hp] at h1
          cases h1
          exact vu
      · rintro H1 ⟨s1, acc, ds, hD, ia, el, ok1⟩
        refine ⟨D, acc, rfl, .inl ⟨SqL.of hD, fun l nl => ⟨sz, fun p np => ?_⟩⟩⟩
        have s2 : Same H1 (upd H1 l (.tup acc)) := same_new nl _
        have s3 : Same (upd H1 l (.tup acc)) (upd (upd H1 l (.tup acc)) p (.tup [.str k, .ref l])) := same_new np _
        exact q _ (.tuple [.str k, .tuple ds]) _ (Same.tr (Same.tr s1 s2) s3) (.tup upd_same (.cons (.str k) (.cons (.tup (s3 _ _ upd_same) ((ia.mono (ts_same s2)).mono (ts_same s3))) .nil))) (.rcd hrow ha (by omega) ok1)
    | true =>
      refine strF (by decide +kernel) ?_
      have hne := ok.alt r mem ha
      obtain ⟨p0, hp0⟩ : ∃ p, r.ps[0]? = some p := by
        cases e : r.ps with
        | nil => exact absurd e hne
        | cons p _ => exact ⟨p, rfl⟩
      obtain ⟨z0, hz0, iz0⟩ := izs.at (i := 0) (d := partD p0) (by rw [List.getElem?_map, hp0]; rfl)
      obtain ⟨e, w1, w2, rfl, he, j1, j2⟩ := iz0.t2
      cases j1.strE
      cases j2.strE
      have a0 : atI zs 0 = some (.ref e) := atI_nat (j := 0) hz0
      refine ⟨_, rfl, _, rfl, _, _, _, _, rfl, rfl, SqT.of hc, a0, _, _, _, _, rfl, rfl, SqT.of he, at0, _, rfl, _, rfl, _, _, _, _, rfl, rfl, SqT.of hc, a0, _, _, _, _, rfl, rfl, SqT.of he, at1, kv, p0.2, ks, m, rfl, rfl, hk, ok, hps p0 (List.mem_of_getElem? hp0), fun u d H3 s3 iu vu => ⟨sz, fun p np => ?_⟩⟩
      have s4 : Same H3 (upd H3 p (.tup [.str k, .str p0.1, u])) := same_new np _
      exact q _ (.tuple [.str k, .str p0.1, d]) _ (Same.tr s3 s4) (.tup upd_same (.cons (.str k) (.cons (.str _) (.cons (iu.mono (ts_same s4)) .nil)))) (.alt hrow ha (List.mem_of_getElem? hp0) vu)
def spTwo : Sp := fun vs H Q _ => ∃ (s : Str) (a b : Int), vs = [.str s, .int a, .int b] ∧ (0 ≤ a ∧ a < wide) ∧ (0 ≤ b ∧ b < wide) ∧ Q (.int (op2 s a b)) H
theorem nat32 {a : Int} (h : 0 ≤ a ∧ a < wide) : a.natAbs < 2 ^ 32 := by
  have h1 := h.1
  have h2 : a < 4294967296 := h.2
  have e : (2 : Nat) ^ 32 = 4294967296 := by decide
  omega
theorem op2_ok {s : Str} {a b : Int} : 0 ≤ op2 s a b ∧ op2 s a b < wide := by
  have hw : (0 : Int) < wide := by decide
  have hw1 : (1 : Int) < wide := by decide
  unfold op2
  repeat' split
  all_goals first | exact ⟨Int.emod_nonneg _ (by omega), Int.emod_lt_of_pos _ hw⟩ | exact ⟨by omega, by omega⟩
theorem b2i {p : Prop} [Decidable p] : (V.int (if decide p = true then 1 else 0)) = V.int (if p then 1 else 0) := by
  by_cases h : p
  · rw [if_pos h, if_pos (decide_eq_true h)]
  · rw [if_neg h, if_neg (by rw [decide_eq_false h]; exact Bool.false_ne_true)]
theorem calPWorthOfTwo (T : Txt K mg) : C8.Cal P w K mg base 1 "worth_of_two" spTwo [] := by
  refine mkCal T.fPWorthOfTwo scPWorthOfTwo T.glo_worth_of_two (fun _ _ _ _ _ _ us hl => match us, hl with | [_, _, _], _ => rfl) (fun vs H Q E h => ?_) (fun cdv A outer s H vs Q E hr h => ?_)
  · obtain ⟨z, a, b, rfl, _⟩ := h
    rfl
  obtain ⟨z, a, b, rfl, ha, hb, q⟩ := h
  have hw : (0 : Int) < 4294967296 := by decide
  refine ⟨_, PSs.nox (pss_cons (ps_if (pt_cmpR op_eq (pv 0) pe_str (nomark _)) (pss_one (ps_ret (pe_op op_mod (pe_op op_add (pv 1) (pv 2)) (C8.pe_gc rfl (gWide T))))) pss_nil)
      (pss_cons (ps_if (pt_cmpR op_eq (pv 0) pe_str (nomark _)) (pss_one (ps_ret (pe_op op_mod (pe_op op_sub (pv 1) (pv 2)) (C8.pe_gc rfl (gWide T))))) pss_nil)
      (pss_cons (ps_if (pt_cmpR op_eq (pv 0) pe_str (nomark _)) (pss_one (ps_ret (pe_op op_mod (pe_op op_mulW (pv 1) (pv 2)) (C8.pe_gc rfl (gWide T))))) pss_nil)
      (pss_cons (ps_if (pt_cmpR op_eq (pv 0) pe_str (nomark _)) (pss_one (ps_ret (pe_callTy call_int1 (by rfl) T.free_int (by decide +kernel) (pa_cons (pe_cmpR op_lt (pv 1) (pv 2) (nomark _)) pa_nil)))) pss_nil)
      (pss_one (ps_ret (pe_callTy call_int1 (by rfl) T.free_int (by decide +kernel) (pa_cons (pe_cmpR op_eq (pv 1) (pv 2) (nomark _)) pa_nil)))))))), ?_⟩
  refine ⟨_, rfl, rfl, _, rfl, ite2 (fun c => ?_) (fun c => ?_)⟩
  · have e : z = "+" := V.str.inj (of_decide_eq_true c)
    refine ⟨_, rfl, _, rfl, _, _, rfl, rfl, _, _, rfl, rfl, hw, ?_⟩
    rw [op2, if_pos e] at q
    exact q
  have n1 : ¬ z = "+" := fun e => c (decide_eq_true (by rw [e]))
  rw [op2, if_neg n1] at q
  refine ⟨_, rfl, rfl, _, rfl, ite2 (fun c => ?_) (fun c => ?_)⟩
  · have e : z = "-" := V.str.inj (of_decide_eq_true c)
    refine ⟨_, rfl, _, rfl, _, _, rfl, rfl, _, _, rfl, rfl, hw, ?_⟩
    rw [if_pos e] at q
    exact q
  have n1 : ¬ z = "-" := fun e => c (decide_eq_true (by rw [e]))
  rw [if_neg n1] at q
  refine ⟨_, rfl, rfl, _, rfl, ite2 (fun c => ?_) (fun c => ?_)⟩
  · have e : z = "*" := V.str.inj (of_decide_eq_true c)
    refine ⟨_, rfl, _, rfl, _, _, rfl, rfl, wide_mul (nat32 ha) (nat32 hb) (by decide) (by decide) (by decide), _, _, rfl, rfl, hw, ?_⟩
    rw [if_pos e] at q
    exact q
  have n1 : ¬ z = "*" := fun e => c (decide_eq_true (by rw [e]))
  rw [if_neg n1] at q
  refine ⟨_, rfl, rfl, _, rfl, ite2 (fun c => ?_) (fun c => ?_)⟩
  · have e : z = "<" := V.str.inj (of_decide_eq_true c)
    refine ⟨_, rfl, _, rfl, _, _, rfl, rfl, .inr ⟨_, rfl, ?_⟩⟩
    rw [if_pos e] at q
    rw [b2i]
    exact q
  have n1 : ¬ z = "<" := fun e => c (decide_eq_true (by rw [e]))
  rw [if_neg n1] at q
  refine ⟨_, rfl, _, rfl, rfl, .inr ⟨_, rfl, ?_⟩⟩
  have e2 : (V.int a = V.int b) = (a = b) := by simp
  have e3 : decide (V.int a = V.int b) = decide (a = b) := by simp
  show Q (V.int (if decide (V.int a = V.int b) = true then 1 else 0)) H
  rw [e3, b2i]
  exact q
end
end Sw
set_option Elab.async false
set_option linter.all false
set_option maxRecDepth 100000
set_option maxHeartbeats 4000000
/-! Values of terms: worth_of_case, worth. -/
namespace Sw
open PySem PySem.Spec PyProof.Rows L2
/-! ### what ev does, form by form -/
section
variable {ks : List KR} {n : Nat} {r : EnvD}
theorem ev_num {i : Int} : ev ks (n + 1) r (.tuple [.str "num", .int i]) = .int i := if_pos rfl
theorem ev_box {x : Str} : ev ks (n + 1) r (.tuple [.str "box", .str x]) = (lookA r x).getD .none := (if_neg (c := ("box" : Str) = "num") (by decide +kernel)).trans (if_pos rfl)
theorem ev_op {s : Str} {a b : PyData} : ev ks (n + 1) r (.tuple [.str "op", .str s, a, b]) = .int (op2 s (iOf (ev ks n r a)) (iOf (ev ks n r b))) :=
  (if_neg (c := ("op" : Str) = "num") (by decide +kernel)).trans <| (if_neg (c := ("op" : Str) = "box") (by decide +kernel)).trans (if_pos rfl)
theorem ev_rec {k : Str} {es : List PyData} : ev ks (n + 1) r (.tuple [.str "rec", .str k, .tuple es]) = .tuple [.str k, .tuple (es.map fun e => ev ks n r e)] :=
  (if_neg (c := ("rec" : Str) = "num") (by decide +kernel)).trans <| (if_neg (c := ("rec" : Str) = "box") (by decide +kernel)).trans <| (if_neg (c := ("rec" : Str) = "op") (by decide +kernel)).trans (if_pos rfl)
theorem ev_get {f : Str} {a : PyData} : ev ks (n + 1) r (.tuple [.str "get", a, .str f]) = fieldOf ks (ev ks n r a) f :=
  (if_neg (c := ("get" : Str) = "num") (by decide +kernel)).trans <| (if_neg (c := ("get" : Str) = "box") (by decide +kernel)).trans <| (if_neg (c := ("get" : Str) = "op") (by decide +kernel)).trans <| (if_neg (c := ("get" : Str) = "rec") (by decide +kernel)).trans (if_pos rfl)
theorem ev_tag {k t : Str} {a : PyData} : ev ks (n + 1) r (.tuple [.str "tag", .str k, .str t, a]) = .tuple [.str k, .str t, ev ks n r a] :=
  (if_neg (c := ("tag" : Str) = "num") (by decide +kernel)).trans <| (if_neg (c := ("tag" : Str) = "box") (by decide +kernel)).trans <| (if_neg (c := ("tag" : Str) = "op") (by decide +kernel)).trans <| (if_neg (c := ("tag" : Str) = "rec") (by decide +kernel)).trans <|
    (if_neg (c := ("tag" : Str) = "get") (by decide +kernel)).trans (if_pos rfl)
theorem ev_case {a : PyData} {arms : List PyData} : ev ks (n + 1) r (.tuple [.str "case", a, .tuple arms]) =
    (match arms.find? (fun a' => decide (sOf ((tOf a').getD 0 .none) = sOf ((tOf (ev ks n r a)).getD 1 .none))) with
      | some a' => ev ks n (putA r (sOf ((tOf a').getD 1 .none)) ((tOf (ev ks n r a)).getD 2 .none)) ((tOf a').getD 2 .none)
      | none => .none) :=
  (if_neg (c := ("case" : Str) = "num") (by decide +kernel)).trans <| (if_neg (c := ("case" : Str) = "box") (by decide +kernel)).trans <| (if_neg (c := ("case" : Str) = "op") (by decide +kernel)).trans <| (if_neg (c := ("case" : Str) = "rec") (by decide +kernel)).trans <|
    (if_neg (c := ("case" : Str) = "get") (by decide +kernel)).trans <| (if_neg (c := ("case" : Str) = "tag") (by decide +kernel)).trans (if_pos rfl)
theorem ev_if {a b c : PyData} : ev ks (n + 1) r (.tuple [.str "if", a, b, c]) = if iOf (ev ks n r a) ≠ 0 then ev ks n r b else ev ks n r c :=
  (if_neg (c := ("if" : Str) = "num") (by decide +kernel)).trans <| (if_neg (c := ("if" : Str) = "box") (by decide +kernel)).trans <| (if_neg (c := ("if" : Str) = "op") (by decide +kernel)).trans <| (if_neg (c := ("if" : Str) = "rec") (by decide +kernel)).trans <|
    (if_neg (c := ("if" : Str) = "get") (by decide +kernel)).trans <| (if_neg (c := ("if" : Str) = "tag") (by decide +kernel)).trans (if_neg (c := ("if" : Str) = "case") (by decide +kernel))
end
/-- a name that stands in a list without equal names: where it stands -/
theorem idx_of {ps : List (Str × Str)} (nd : (ps.map (·.1)).Nodup) {f k : Str} (m : (f, k) ∈ ps) : ps[(ps.map (·.1)).idxOf f]? = some (f, k) ∧ (ps.map (·.1))[(ps.map (·.1)).idxOf f]? = some f ∧ ∀ i z, i < (ps.map (·.1)).idxOf f → (ps.map (·.1))[i]? = some z → z ≠ f := by
  induction ps with
  | nil => cases m
  | cons p r ih =>
    rw [List.map_cons, List.nodup_cons] at nd
    by_cases c : p.1 = f
    · have e : (List.map (·.1) (p :: r)).idxOf f = 0 := by rw [List.map_cons, List.idxOf_cons, c, beq_self_eq_true]; rfl
      rw [e]
      refine ⟨?_, by rw [List.map_cons, c]; rfl, fun i z h => absurd h (Nat.not_lt_zero i)⟩
      rcases List.mem_cons.mp m with h | h
      · rw [← h]; rfl
      · exact absurd (by rw [c]; exact List.mem_map_of_mem (f := (·.1)) h) nd.1
    · have e : (List.map (·.1) (p :: r)).idxOf f = (r.map (·.1)).idxOf f + 1 := by rw [List.map_cons, List.idxOf_cons, beq_eq_false_iff_ne.mpr c]; rfl
      have m2 : (f, k) ∈ r := by
        rcases List.mem_cons.mp m with h | h
        · exact absurd (by rw [← h]) c
        · exact h
      obtain ⟨h1, h2, h3⟩ := ih nd.2 m2
      rw [e]
      refine ⟨by rw [List.getElem?_cons_succ]; exact h1, by rw [List.map_cons, List.getElem?_cons_succ]; exact h2, fun i z hi hz => ?_⟩
      cases i with
      | zero =>
        rw [List.map_cons] at hz
        simp at hz
        rw [← hz]
        exact c
      | succ i =>
        rw [List.map_cons, List.getElem?_cons_succ] at hz
        exact h3 i z (by omega) hz
theorem key_uniq {ps : List (Str × Str)} (nd : (ps.map (·.1)).Nodup) {f k k' : Str} (m : (f, k) ∈ ps) (m' : (f, k') ∈ ps) : k = k' := by
  have h1 := (idx_of nd m).1
  have h2 := (idx_of nd m').1
  rw [h1] at h2
  exact congrArg (·.2) (Option.some.inj h2)
/-- what stands around a term -/
structure WC (H : Hp) (kv : V) (b : Addr) (ks : List KR) (g : Ctx) (kvs : List (Key × V)) (r : EnvD) : Prop where
  hk : KsAt H kv ks
  ok : KOk ks
  hb : H b = some (.dK kvs)
  bx : Bx H kvs r
  env : EnvOk ks g r
theorem WC.mono {H H' : Hp} {kv : V} {b : Addr} {ks : List KR} {g : Ctx} {kvs : List (Key × V)} {r : EnvD} (c : WC H kv b ks g kvs r) (s : Same H H') : WC H' kv b ks g kvs r := ⟨c.hk.mono (ts_same s), c.ok, s _ _ c.hb, c.bx.mono (ts_same s), c.env⟩
def spWorth (n : Nat) : Sp := fun vs H Q _ => ∃ (kv tv : V) (b : Addr) (ks : List KR) (g : Ctx) (k : Str) (t : PyData) (kvs : List (Key × V)) (r : EnvD), vs = [kv, tv, .ref b] ∧ WC H kv b ks g kvs r ∧ Im H tv t ∧ WT ks n g k t ∧ kvs.length + n ≤ 1000 ∧
  ∀ u H', Same H H' → Im H' u (ev ks n r t) → VOk ks k (ev ks n r t) → Q u H'
def spCase (n : Nat) : Sp := fun vs H Q _ => ∃ (kv tv : V) (b : Addr) (ks : List KR) (g : Ctx) (k k' : Str) (rw_ : KR) (a : PyData) (arms : List (Str × Str × PyData)) (kf : Str → Str) (kvs : List (Key × V)) (r : EnvD), vs = [kv, tv, .ref b] ∧ WC H kv b ks g kvs r ∧
  Im H tv (.tuple [.str "case", a, .tuple (arms.map armD)]) ∧ WT ks n g k' a ∧ row ks k' = some rw_ ∧ rw_.alt = true ∧ (∀ p ∈ rw_.ps, ∃ m ∈ arms, m.1 = p.1) ∧ (∀ m ∈ arms, (m.1, kf m.1) ∈ rw_.ps) ∧ (∀ m ∈ arms, ∀ q ∈ g, q.1 ≠ m.2.1) ∧
  (∀ m ∈ arms, WT ks n (g ++ [(m.2.1, kf m.1)]) k m.2.2) ∧ kvs.length + n + 1 ≤ 1000 ∧
  ∀ u H', Same H H' → Im H' u (ev ks (n + 1) r (.tuple [.str "case", a, .tuple (arms.map armD)])) → VOk ks k (ev ks (n + 1) r (.tuple [.str "case", a, .tuple (arms.map armD)])) → Q u H'
section
variable {P : Program} {w : World} {K : PySem.W.Frag} {mg : Str → Option Value} {base : Heap}
theorem calPWorthOfCase (T : Txt K mg) {n : Nat} (cPWorth : C8.Cal P w K mg base (2 * n + 4) "worth" (spWorth n) []) : C8.Cal P w K mg base (2 * n + 5) "worth_of_case" (spCase n) [] := by
  refine mkCal (k := 2 * n + 4) T.fPWorthOfCase scPWorthOfCase T.glo_worth_of_case (fun _ _ _ _ _ _ us hl => match us, hl with | [_, _, _], _ => rfl) (fun vs H Q E h => ?_) (fun cdv A outer s H vs Q E hr h => ?_)
  · obtain ⟨kv, tv, b, ks, g, k, k', rw_, a, arms, kf, kvs, r, rfl, _⟩ := h
    rfl
  obtain ⟨kv, tv, b, ks, g, k, k', rw_, a, arms, kf, kvs, r, rfl, c, it, wa, hrow, halt, cov, mem, fresh, wms, hl, q⟩ := h
  have hu := hu_of hr
  obtain ⟨ta, v1, v2, v3, rfl, hta, i1, i2, i3⟩ := it.t3
  obtain ⟨aa, zs, rfl, haa, izs⟩ := i3.tupE
  refine ⟨_, PSs.nox (pss_cons (ps_asg (C8.pe_c cPWorth hr (by omega) rfl (pa_cons (pv 0) (pa_cons (pe_ix (ix_tupK (K := K) rfl) (pv 1) pe_int (fun _ _ => rfl)) (pa_cons (pv 2) pa_nil)))) (pg_tupK (K := K) (n := 3) rfl rfl (pgs_cons (pg_name (i := 3) scPWorthOfCase.nd rfl (Or.inl rfl)) (pgs_cons (pg_name (i := 4) scPWorthOfCase.nd rfl (Or.inl rfl)) (pgs_cons (pg_name (i := 5) scPWorthOfCase.nd rfl (Or.inl rfl)) pgs_nil)))))
      (pss_cons (ps_for PassesOwn.never rfl (pi_tup (pe_ix (ix_tupK (K := K) rfl) (pv 1) pe_int (fun _ _ => rfl))) (pg_tupK (K := K) (n := 3) rfl rfl (pgs_cons (pg_name (i := 6) scPWorthOfCase.nd rfl (Or.inl rfl)) (pgs_cons (pg_name (i := 7) scPWorthOfCase.nd rfl (Or.inl rfl)) (pgs_cons (pg_name (i := 8) scPWorthOfCase.nd rfl (Or.inl rfl)) pgs_nil))))
        (pss_one (ps_if (pt_cmpR op_eq (pv 6) (pv 4) (nomark _)) (pss_cons (ps_set (i := 9) scPWorthOfCase.nd rfl (Or.inl rfl) (pe_callTy call_dictD (by rfl) T.free_dict (by decide +kernel) (pa_cons (pv 2) pa_nil)))
            (pss_cons (ps_dput hu (pv 9) (pv 7) (pv 5) rfl)
            (pss_one (ps_ret (C8.pe_c cPWorth hr (by omega) rfl (pa_cons (pv 0) (pa_cons (pv 8) (pa_cons (pv 9) pa_nil)))))))) pss_nil)))
      (pss_one (ps_ret (pv 5))))), ?_⟩
  refine ⟨_, rfl, _, rfl, _, _, _, _, rfl, rfl, SqT.of hta, at1, _, rfl, kv, v2, b, ks, g, k', a, kvs, r, rfl, c, i2, wa, by omega, fun u H1 s1 iu vu => ?_⟩
  obtain ⟨tg, kt, d, ed, mt, vd⟩ := vu.altE c.ok hrow halt
  rw [ed] at iu
  obtain ⟨ua, w1, w2, w3, rfl, hua, j1, j2, j3⟩ := iu.t3
  cases j1.strE
  cases j2.strE
  have c1 := c.mono s1
  have hta1 := s1 _ _ hta
  have haa1 := s1 _ _ haa
  refine ⟨_, _, rfl, SqT.of hua, rfl, _, _, rfl, _, _, rfl, _, _, rfl, rfl, ?_⟩
  refine ⟨_, rfl, _, _, _, _, rfl, rfl, SqT.of hta1, at2, aa, rfl, ⟨_, SqT.of haa1⟩, for_it (walk_tup (K := K) (a := aa) (xs := zs)) (fun i σ H' => H' = H1 ∧ (∃ x1 x2 x3 x4, σ = [some kv, some (.ref ta), some (.ref b), some (.str k'), some (.str tg), some w3, x1, x2, x3, x4]) ∧ ∀ j m, j < i → arms[j]? = some m → m.1 ≠ tg)
    ⟨rfl, ⟨_, _, _, _, rfl⟩, fun j m hj => absurd hj (Nat.not_lt_zero j)⟩ (fun i σ H' _ hP => by rw [hP.1]; exact SqT.of haa1) ?_ ?_⟩
  · rintro i x σ H2 H3 hi ⟨rfl, ⟨x1, x2, x3, x4, rfl⟩, hb⟩ ⟨rfl, hx⟩
    obtain ⟨e, he, ix⟩ := izs.of hx
    rw [List.getElem?_map] at he
    obtain ⟨m, hm, rfl⟩ := Option.map_eq_some_iff.mp he
    obtain ⟨ma, y1, y2, y3, rfl, hma, l1, l2, l3⟩ := (ix.mono (ts_same s1)).t3
    cases l1.strE
    cases l2.strE
    refine ⟨_, _, rfl, SqT.of hma, rfl, _, _, rfl, _, _, rfl, _, _, rfl, rfl, ?_⟩
    refine ⟨_, rfl, _, rfl, rfl, _, rfl, ite2 (fun e1 => ?_) (fun e1 => ?_)⟩
    · have em : m.1 = tg := V.str.inj (of_decide_eq_true e1)
      have mm : m ∈ arms := List.mem_of_getElem? hm
      refine ⟨_, rfl, b, kvs, rfl, .inl c1.hb, fun p np => ?_⟩
      have s2 : Same H3 (upd H3 p (.dK kvs)) := same_new np _
      have hp : upd H3 p (.dK kvs) p = some (.dK kvs) := upd_same
      have ek : kf m.1 = kt := by
        have h1 := mem m mm
        rw [em] at h1 ⊢
        exact key_uniq (c.ok.pn rw_ (row_mem hrow).1).1 h1 mt
      have lp : (putK kvs (Sum.inr m.2.1 : Key) w3).length ≤ kvs.length + 1 := by
        have z := (c1.bx.put (x := m.2.1) j3).length
        rw [z, c1.bx.length]
        exact putA_len
      refine ⟨_, rfl, _, rfl, _, rfl, p, _, rfl, DPut.k (k := Sum.inr m.2.1) hp (small1000 (by omega)), ?_⟩
      have s3 : Same H3 (upd (upd H3 p (.dK kvs)) p (.dK (putK kvs (Sum.inr m.2.1) w3))) := same_upd s2 np _
      have c3 := c1.mono s3
      have ee : ev ks n (putA r m.2.1 d) m.2.2 = ev ks (n + 1) r (.tuple [.str "case", a, .tuple (arms.map armD)]) := by
        have f1 : (arms.map armD).find? (fun a' => decide (sOf ((tOf a').getD 0 .none) = sOf ((tOf (ev ks n r a)).getD 1 .none))) = some (armD m) := by
          rw [ed]
          rw [List.find?_map]
          have f2 : arms.find? ((fun a' => decide (sOf ((tOf a').getD 0 .none) = sOf ((tOf (.tuple [.str k', .str tg, d])).getD 1 .none))) ∘ armD) = some m := by
            refine List.find?_eq_some_iff_getElem.mpr ⟨decide_eq_true em, i, (List.getElem?_eq_some_iff.mp hm).1, (List.getElem?_eq_some_iff.mp hm).2, fun j hj => ?_⟩
            have hjl : j < arms.length := by have := (List.getElem?_eq_some_iff.mp hm).1; omega
            have := hb j arms[j] hj (List.getElem?_eq_getElem hjl)
            show (!decide (arms[j].1 = tg)) = true
            rw [decide_eq_false this]
            rfl
          rw [f2]
          rfl
        rw [ev_case, f1, ed]
        rfl
      refine ⟨_, rfl, _, rfl, _, rfl, kv, y3, p, ks, g ++ [(m.2.1, kf m.1)], k, m.2.2, putK kvs (Sum.inr m.2.1) w3, putA r m.2.1 d, rfl, ⟨c3.hk, c.ok, upd_same, (c1.bx.put j3).mono (ts_same s3), c.env.put (fresh m mm) (by rw [ek]; exact vd)⟩, l3.mono (ts_same s3), wms m mm, by omega, fun u2 H4 s4 iu2 vu2 => ?_⟩
      rw [ee] at iu2 vu2
      exact q u2 H4 (Same.tr s1 (Same.tr s3 s4)) iu2 vu2
    · have n1 : m.1 ≠ tg := fun z => e1 (decide_eq_true (by rw [z]))
      refine ⟨rfl, ⟨_, _, _, _, rfl⟩, fun j m2 hj h => ?_⟩
      by_cases hj2 : j = i
      · subst hj2
        rw [hm] at h
        cases h
        exact n1
      · exact hb j m2 (by omega) h
  · rintro σ H2 ⟨rfl, _, hb⟩
    exfalso
    obtain ⟨m, hm, em⟩ := cov _ mt
    obtain ⟨i, hi, ei⟩ := List.mem_iff_getElem.mp hm
    refine hb i m (by rw [izs.length, List.length_map]; exact hi) (by rw [List.getElem?_eq_getElem hi, ei]) em
theorem calPWorth (T : Txt K mg) : ∀ n, C8.Cal P w K mg base (2 * n + 4) "worth" (spWorth n) []
  | 0 => by
    obtain ⟨f, fd, ps, ds, F, h2⟩ := (calF (P := P) (w := w) (base := base) T.fPWorth T.glo_worth (fun _ _ _ _ _ _ us hl => match us, hl with | [_, _, _], _ => rfl) (ps := pPWorth)).ex
    exact ⟨f, fd, ps, ds, (F.imp (sp' := spWorth 0) (fun vs H Q E h => by obtain ⟨_, _, _, _, _, _, _, _, _, _, _, _, h0, _⟩ := h; cases h0)).mono (by omega), h2⟩
  | n + 1 => by
    have cPWorth := calPWorth T n
    have cPWorthOfCase := calPWorthOfCase T cPWorth
    have cPWorthOfTwo := calPWorthOfTwo (P := P) (w := w) (base := base) T
    have cPField := calPField (P := P) (w := w) (base := base) T
    refine mkCal (k := 2 * n + 5) T.fPWorth scPWorth T.glo_worth (fun _ _ _ _ _ _ us hl => match us, hl with | [_, _, _], _ => rfl) (fun vs H Q E h => ?_) (fun cdv A outer s H vs Q E hr h => ?_)
    · obtain ⟨kv, tv, b, ks, g, k, t, kvs, r, rfl, _⟩ := h
      rfl
    obtain ⟨kv, tv, b, ks, g, k, t, kvs, r, rfl, c, it, wt, hl, q⟩ := h
    have hu := hu_of hr
    refine ⟨_, PSs.nox (pss_cons (ps_set (i := 3) scPWorth.nd rfl (Or.inl rfl) (pe_ix (ix_tupK (K := K) rfl) (pv 1) pe_int (fun _ _ => rfl)))
      (pss_cons (ps_if (pt_cmpR op_eq (pv 3) pe_str (nomark _)) (pss_one (ps_ret (pe_ix (ix_tupK (K := K) rfl) (pv 1) pe_int (fun _ _ => rfl)))) pss_nil)
      (pss_cons (ps_if (pt_cmpR op_eq (pv 3) pe_str (nomark _)) (pss_one (ps_ret (pe_dget hu (pv 2) (pe_ix (ix_tupK (K := K) rfl) (pv 1) pe_int (fun _ _ => rfl)) (fun _ _ => rfl)))) pss_nil)
      (pss_cons (ps_if (pt_cmpR op_eq (pv 3) pe_str (nomark _)) (pss_one (ps_ret (C8.pe_c cPWorthOfTwo hr (by omega) rfl (pa_cons (pe_ix (ix_tupK (K := K) rfl) (pv 1) pe_int (fun _ _ => rfl)) (pa_cons (C8.pe_c cPWorth hr (by omega) rfl (pa_cons (pv 0) (pa_cons (pe_ix (ix_tupK (K := K) rfl) (pv 1) pe_int (fun _ _ => rfl)) (pa_cons (pv 2) pa_nil)))) (pa_cons (C8.pe_c cPWorth hr (by omega) rfl (pa_cons (pv 0) (pa_cons (pe_ix (ix_tupK (K := K) rfl) (pv 1) pe_int (fun _ _ => rfl)) (pa_cons (pv 2) pa_nil)))) pa_nil)))))) pss_nil)
      (pss_cons (ps_if (pt_cmpR op_eq (pv 3) pe_str (nomark _)) (pss_one (ps_ret (pe_tup (pa_cons (pe_ix (ix_tupK (K := K) rfl) (pv 1) pe_int (fun _ _ => rfl)) (pa_cons (pe_callTy call_tuple_of (by rfl) T.free_tuple (by decide +kernel) (pa_cons (pe_lc (own := [("one", 4)])  rfl scPWorth.nd (pi_tup (pe_ix (ix_tupK (K := K) rfl) (pv 1) pe_int (fun _ _ => rfl))) (blkOk_by (N := nPWorth) (sc := defScope sPWorth) (by decide +kernel)) (fun _ _ _ _ _ => pg_name (i := 4) scPWorth.nd rfl (Or.inl rfl)) (fun _ _ _ _ _ => pts_nil) (fun _ _ _ _ _ => C8.pe_c cPWorth hr (by omega) rfl (pa_cons (pv 0) (pa_cons (pv 4) (pa_cons (pv 2) pa_nil))))) pa_nil)) pa_nil))))) pss_nil)
      (pss_cons (ps_if (pt_cmpR op_eq (pv 3) pe_str (nomark _)) (pss_one (ps_ret (C8.pe_c cPField hr (by omega) rfl (pa_cons (pv 0) (pa_cons (C8.pe_c cPWorth hr (by omega) rfl (pa_cons (pv 0) (pa_cons (pe_ix (ix_tupK (K := K) rfl) (pv 1) pe_int (fun _ _ => rfl)) (pa_cons (pv 2) pa_nil)))) (pa_cons (pe_ix (ix_tupK (K := K) rfl) (pv 1) pe_int (fun _ _ => rfl)) pa_nil)))))) pss_nil)
      (pss_cons (ps_if (pt_cmpR op_eq (pv 3) pe_str (nomark _)) (pss_one (ps_ret (pe_tup (pa_cons (pe_ix (ix_tupK (K := K) rfl) (pv 1) pe_int (fun _ _ => rfl)) (pa_cons (pe_ix (ix_tupK (K := K) rfl) (pv 1) pe_int (fun _ _ => rfl)) (pa_cons (C8.pe_c cPWorth hr (by omega) rfl (pa_cons (pv 0) (pa_cons (pe_ix (ix_tupK (K := K) rfl) (pv 1) pe_int (fun _ _ => rfl)) (pa_cons (pv 2) pa_nil)))) pa_nil)))))) pss_nil)
      (pss_cons (ps_if (pt_cmpR op_eq (pv 3) pe_str (nomark _)) (pss_one (ps_ret (C8.pe_c cPWorthOfCase hr (by omega) rfl (pa_cons (pv 0) (pa_cons (pv 1) (pa_cons (pv 2) pa_nil)))))) pss_nil)
      (pss_cons (ps_if (pt_cmpR op_ne (C8.pe_c cPWorth hr (by omega) rfl (pa_cons (pv 0) (pa_cons (pe_ix (ix_tupK (K := K) rfl) (pv 1) pe_int (fun _ _ => rfl)) (pa_cons (pv 2) pa_nil)))) pe_int (nomark _)) (pss_one (ps_ret (C8.pe_c cPWorth hr (by omega) rfl (pa_cons (pv 0) (pa_cons (pe_ix (ix_tupK (K := K) rfl) (pv 1) pe_int (fun _ _ => rfl)) (pa_cons (pv 2) pa_nil)))))) pss_nil)
      (pss_one (ps_ret (C8.pe_c cPWorth hr (by omega) rfl (pa_cons (pv 0) (pa_cons (pe_ix (ix_tupK (K := K) rfl) (pv 1) pe_int (fun _ _ => rfl)) (pa_cons (pv 2) pa_nil))))))))))))))), ?_⟩
    cases wt with
    | @num _ _ i h0 h1 =>
      obtain ⟨ta, v1, v2, rfl, ha, i1, i2⟩ := it.t2
      cases i1.strE
      cases i2.intE
      refine ⟨_, rfl, _, _, _, _, rfl, rfl, SqT.of ha, at0, ?_⟩
      refine ⟨_, rfl, rfl, _, rfl, strT rfl ?_⟩
      exact ⟨_, rfl, _, _, _, _, rfl, rfl, SqT.of ha, at1, q _ H same_refl (by rw [ev_num]; exact .int i) (by rw [ev_num]; exact .num h0 h1)⟩
    | @box _ _ x _ hx =>
      obtain ⟨ta, v1, v2, rfl, ha, i1, i2⟩ := it.t2
      cases i1.strE
      cases i2.strE
      obtain ⟨d, hd, vd⟩ := c.env _ hx
      obtain ⟨v, hv, iv⟩ := c.bx.get hd
      have ee : ev ks (n + 1) r (.tuple [.str "box", .str x]) = d := by rw [ev_box, hd]; rfl
      refine ⟨_, rfl, _, _, _, _, rfl, rfl, SqT.of ha, at0, ?_⟩
      refine ⟨_, rfl, rfl, _, rfl, strF (by decide +kernel) ?_⟩
      refine ⟨_, rfl, rfl, _, rfl, strT rfl ?_⟩
      refine ⟨_, rfl, _, rfl, _, _, _, _, rfl, rfl, SqT.of ha, at1, b, v, rfl, hv ▸ DGet.k (k := Sum.inr x) c.hb, q v H same_refl (by rw [ee]; exact iv) (by rw [ee]; exact vd)⟩
    | @op _ _ z a b2 wa wb =>
      obtain ⟨ta, v1, v2, v3, v4, rfl, ha, i1, i2, i3, i4⟩ := it.t4
      cases i1.strE
      cases i2.strE
      refine ⟨_, rfl, _, _, _, _, rfl, rfl, SqT.of ha, at0, ?_⟩
      refine ⟨_, rfl, rfl, _, rfl, strF (by decide +kernel) ?_⟩
      refine ⟨_, rfl, rfl, _, rfl, strF (by decide +kernel) ?_⟩
      refine ⟨_, rfl, rfl, _, rfl, strT rfl ?_⟩
      refine ⟨_, rfl, _, _, _, _, rfl, rfl, SqT.of ha, at1, _, rfl, _, rfl, _, _, _, _, rfl, rfl, SqT.of ha, at2, _, rfl, kv, v3, b, ks, g, numK, a, kvs, r, rfl, c, i3, wa, by omega, fun u H1 s1 iu vu => ?_⟩
      obtain ⟨x, ex, hx⟩ := vu.numE c.ok
      rw [ex] at iu
      cases iu.intE
      have ha1 := s1 _ _ ha
      refine ⟨_, rfl, _, rfl, _, _, _, _, rfl, rfl, SqT.of ha1, at3, _, rfl, kv, v4, b, ks, g, numK, b2, kvs, r, rfl, c.mono s1, i4.mono (ts_same s1), wb, by omega, fun u H2 s2 iu vu => ?_⟩
      obtain ⟨y, ey, hy⟩ := vu.numE c.ok
      rw [ey] at iu
      cases iu.intE
      have ee : ev ks (n + 1) r (.tuple [.str "op", .str z, a, b2]) = .int (op2 z x y) := by rw [ev_op, ex, ey]; rfl
      exact ⟨z, x, y, rfl, hx, hy, q _ H2 (Same.tr s1 s2) (by rw [ee]; exact .int _) (by rw [ee]; exact .num op2_ok.1 op2_ok.2)⟩
    | @rcd _ _ _ rr es hrow halt hlen hes =>
      obtain ⟨ta, v1, v2, v3, rfl, ha, i1, i2, i3⟩ := it.t3
      cases i1.strE
      cases i2.strE
      obtain ⟨ea, zs, rfl, hea, izs⟩ := i3.tupE
      have h4 := (c.ok.pn rr (row_mem hrow).1).2
      have zl := izs.length
      refine ⟨_, rfl, _, _, _, _, rfl, rfl, SqT.of ha, at0, ?_⟩
      refine ⟨_, rfl, rfl, _, rfl, strF (by decide +kernel) ?_⟩
      refine ⟨_, rfl, rfl, _, rfl, strF (by decide +kernel) ?_⟩
      refine ⟨_, rfl, rfl, _, rfl, strF (by decide +kernel) ?_⟩
      refine ⟨_, rfl, rfl, _, rfl, strT rfl ?_⟩
      refine ⟨_, rfl, _, _, _, _, rfl, rfl, SqT.of ha, at1, _, rfl, _, _, _, _, rfl, rfl, SqT.of ha, at2, ea, rfl, ⟨_, SqT.of hea⟩, fun D nD => ?_⟩
      refine lc_it (walk_tup (K := K) (a := ea) (xs := zs)) (fun i H' => Same H H' ∧ ∃ acc, H' D = some (.lst acc) ∧ Ims H' acc ((es.map fun e => ev ks n r e).take i) ∧ ∀ (j : Nat) (p : Str × Str) (e : PyData), j < i → rr.ps[j]? = some p → es[j]? = some e → VOk ks p.2 (ev ks n r e))
        ⟨same_new nD _, [], upd_same, by rw [List.take_zero]; exact .nil, fun j p v h => absurd h (Nat.not_lt_zero j)⟩ (fun i H' _ hP => SqT.of (hP.1 _ _ hea)) ?_ ?_
      · rintro i y H1 H2 hi ⟨s1, acc, hD, ia, ok1⟩ ⟨rfl, hy⟩
        obtain ⟨e, he, ie⟩ := izs.of hy
        have hil : i < es.length := (List.getElem?_eq_some_iff.mp he).1
        obtain ⟨p, hp⟩ : ∃ p, rr.ps[i]? = some p := ⟨_, List.getElem?_eq_getElem (by omega)⟩
        refine ⟨rfl, lcYes ?_⟩
        refine ⟨_, rfl, _, rfl, _, rfl, kv, y, b, ks, g, p.2, e, kvs, r, rfl, c.mono s1, ie.mono (ts_same s1), hes i p e hp he, by omega, fun u H3 s3 iu vu => ?_⟩
        have hD3 := s3 _ _ hD
        have al : acc.length = i := by rw [ia.length, List.length_take, List.length_map]; omega
        have eL : (es.map fun e => ev ks n r e)[i]? = some (ev ks n r e) := by rw [List.getElem?_map, he]; rfl
        refine ⟨acc, hD3, small1000 (by omega), same_upd (Same.tr s1 s3) nD _, acc ++ [u], upd_same, ?_, fun j p2 e2 hj h1 h2 => ?_⟩
        · rw [List.take_succ, eL]
          exact ((ia.mono (ts_same s3)).snoc iu).mono (ts_lst hD3)
        · by_cases hj2 : j = i
          · subst hj2
            rw [he] at h2
            cases h2
            rw [hp] at h1
            cases h1
            exact vu
          · exact ok1 j p2 e2 (by omega) h1 h2
      · rintro H1 ⟨s1, acc, hD, ia, ok1⟩
        rw [List.take_of_length_le (by rw [List.length_map]; omega)] at ia
        refine ⟨D, acc, rfl, .inl ⟨SqL.of hD, fun l nl => ⟨sz, fun p np => ?_⟩⟩⟩
        have s2 : Same H1 (upd H1 l (.tup acc)) := same_new nl _
        have s3 : Same (upd H1 l (.tup acc)) (upd (upd H1 l (.tup acc)) p (.tup [.str k, .ref l])) := same_new np _
        refine q _ _ (Same.tr (Same.tr s1 s2) s3) ?_ ?_
        · rw [ev_rec]
          exact .tup upd_same (.cons (.str k) (.cons (.tup (s3 _ _ upd_same) ((ia.mono (ts_same s2)).mono (ts_same s3))) .nil))
        · rw [ev_rec]
          refine .rcd hrow halt (by rw [List.length_map]; exact hlen) fun i p v h1 h2 => ?_
          rw [List.getElem?_map] at h2
          obtain ⟨e, he, rfl⟩ := Option.map_eq_some_iff.mp h2
          exact ok1 i p e (by have := (List.getElem?_eq_some_iff.mp he).1; omega) h1 he
    | @get _ _ _ k' f rr a wa hrow halt mf =>
      obtain ⟨ta, v1, v2, v3, rfl, ha, i1, i2, i3⟩ := it.t3
      cases i1.strE
      cases i3.strE
      refine ⟨_, rfl, _, _, _, _, rfl, rfl, SqT.of ha, at0, ?_⟩
      refine ⟨_, rfl, rfl, _, rfl, strF (by decide +kernel) ?_⟩
      refine ⟨_, rfl, rfl, _, rfl, strF (by decide +kernel) ?_⟩
      refine ⟨_, rfl, rfl, _, rfl, strF (by decide +kernel) ?_⟩
      refine ⟨_, rfl, rfl, _, rfl, strF (by decide +kernel) ?_⟩
      refine ⟨_, rfl, rfl, _, rfl, strT rfl ?_⟩
      refine ⟨_, rfl, _, rfl, _, rfl, _, _, _, _, rfl, rfl, SqT.of ha, at1, _, rfl, kv, v2, b, ks, g, k', a, kvs, r, rfl, c, i2, wa, by omega, fun u H1 s1 iu vu => ?_⟩
      obtain ⟨us, eu, ul, hus⟩ := vu.recE c.ok hrow halt
      rw [eu] at iu
      have nd := (c.ok.pn rr (row_mem hrow).1)
      obtain ⟨g1, g2, g3⟩ := idx_of nd.1 mf
      have hj : (rr.ps.map (·.1)).idxOf f < us.length := by
        have := (List.getElem?_eq_some_iff.mp g1).1
        omega
      have hx := List.getElem?_eq_getElem hj
      have ee : ev ks (n + 1) r (.tuple [.str "get", a, .str f]) = us[(rr.ps.map (·.1)).idxOf f] := by
        rw [ev_get, eu]
        show (match (row ks k' : Option KR) with | some (r : KR) => us.getD ((r.ps.map (fun p : Str × Str => p.1)).idxOf f) .none | none => .none) = _
        rw [hrow]
        show us.getD ((rr.ps.map (·.1)).idxOf f) .none = _
        rw [List.getD_eq_getElem?_getD, hx]
        rfl
      have ha1 := s1 _ _ ha
      refine ⟨_, rfl, _, _, _, _, rfl, rfl, SqT.of ha1, at2, kv, u, f, k', ks, rr, us, _, _, rfl, (c.mono s1).hk, hrow, nd.2, iu, g2, g3, hx, fun u2 H2 s2 iu2 => ?_⟩
      exact q u2 H2 (Same.tr s1 s2) (by rw [ee]; exact iu2) (by rw [ee]; exact hus _ _ _ g1 hx)
    | @tag _ _ _ k' t2 rr a hrow halt mt wa =>
      obtain ⟨ta, v1, v2, v3, v4, rfl, ha, i1, i2, i3, i4⟩ := it.t4
      cases i1.strE
      cases i2.strE
      cases i3.strE
      refine ⟨_, rfl, _, _, _, _, rfl, rfl, SqT.of ha, at0, ?_⟩
      refine ⟨_, rfl, rfl, _, rfl, strF (by decide +kernel) ?_⟩
      refine ⟨_, rfl, rfl, _, rfl, strF (by decide +kernel) ?_⟩
      refine ⟨_, rfl, rfl, _, rfl, strF (by decide +kernel) ?_⟩
      refine ⟨_, rfl, rfl, _, rfl, strF (by decide +kernel) ?_⟩
      refine ⟨_, rfl, rfl, _, rfl, strF (by decide +kernel) ?_⟩
      refine ⟨_, rfl, rfl, _, rfl, strT rfl ?_⟩
      refine ⟨_, rfl, _, _, _, _, rfl, rfl, SqT.of ha, at1, _, rfl, _, _, _, _, rfl, rfl, SqT.of ha, at2, _, rfl, _, rfl, _, _, _, _, rfl, rfl, SqT.of ha, at3, _, rfl, kv, v4, b, ks, g, k', a, kvs, r, rfl, c, i4, wa, by omega, fun u H1 s1 iu vu => ⟨sz, fun p np => ?_⟩⟩
      have s2 : Same H1 (upd H1 p (.tup [.str k, .str t2, u])) := same_new np _
      refine q _ _ (Same.tr s1 s2) ?_ ?_
      · rw [ev_tag]
        exact .tup upd_same (.cons (.str k) (.cons (.str t2) (.cons (iu.mono (ts_same s2)) .nil)))
      · rw [ev_tag]
        exact .alt hrow halt mt vu
    | @case _ _ _ k' rr a arms kf wa hrow halt cov mem fresh wms =>
      obtain ⟨ta, v1, v2, v3, rfl, ha, i1, i2, i3⟩ := id it.t3
      cases i1.strE
      refine ⟨_, rfl, _, _, _, _, rfl, rfl, SqT.of ha, at0, ?_⟩
      refine ⟨_, rfl, rfl, _, rfl, strF (by decide +kernel) ?_⟩
      refine ⟨_, rfl, rfl, _, rfl, strF (by decide +kernel) ?_⟩
      refine ⟨_, rfl, rfl, _, rfl, strF (by decide +kernel) ?_⟩
      refine ⟨_, rfl, rfl, _, rfl, strF (by decide +kernel) ?_⟩
      refine ⟨_, rfl, rfl, _, rfl, strF (by decide +kernel) ?_⟩
      refine ⟨_, rfl, rfl, _, rfl, strF (by decide +kernel) ?_⟩
      refine ⟨_, rfl, rfl, _, rfl, strT rfl ?_⟩
      exact ⟨_, rfl, _, rfl, _, rfl, kv, .ref ta, b, ks, g, k, k', rr, a, arms, kf, kvs, r, rfl, c, it, wa, hrow, halt, cov, mem, fresh, wms, by omega, q⟩
    | @ite _ _ _ a b2 c2 wa wb wc =>
      obtain ⟨ta, v1, v2, v3, v4, rfl, ha, i1, i2, i3, i4⟩ := it.t4
      cases i1.strE
      refine ⟨_, rfl, _, _, _, _, rfl, rfl, SqT.of ha, at0, ?_⟩
      refine ⟨_, rfl, rfl, _, rfl, strF (by decide +kernel) ?_⟩
      refine ⟨_, rfl, rfl, _, rfl, strF (by decide +kernel) ?_⟩
      refine ⟨_, rfl, rfl, _, rfl, strF (by decide +kernel) ?_⟩
      refine ⟨_, rfl, rfl, _, rfl, strF (by decide +kernel) ?_⟩
      refine ⟨_, rfl, rfl, _, rfl, strF (by decide +kernel) ?_⟩
      refine ⟨_, rfl, rfl, _, rfl, strF (by decide +kernel) ?_⟩
      refine ⟨_, rfl, rfl, _, rfl, strF (by decide +kernel) ?_⟩
      refine ⟨_, rfl, _, rfl, _, _, _, _, rfl, rfl, SqT.of ha, at1, _, rfl, kv, v2, b, ks, g, numK, a, kvs, r, rfl, c, i2, wa, by omega, fun u H1 s1 iu vu => ?_⟩
      obtain ⟨x, ex, hx⟩ := vu.numE c.ok
      rw [ex] at iu
      cases iu.intE
      have ha1 := s1 _ _ ha
      have c1 := c.mono s1
      refine ⟨rfl, _, rfl, ite2 (fun e => ?_) (fun e => ?_)⟩
      · have hx0 : x ≠ 0 := fun z => by
          rw [z, decide_eq_true rfl] at e
          cases e
        have ee : ev ks (n + 1) r (.tuple [.str "if", a, b2, c2]) = ev ks n r b2 := by rw [ev_if, ex]; exact if_pos hx0
        refine ⟨_, rfl, _, rfl, _, _, _, _, rfl, rfl, SqT.of ha1, at2, _, rfl, kv, v3, b, ks, g, k, b2, kvs, r, rfl, c1, i3.mono (ts_same s1), wb, by omega, fun u H2 s2 iu vu => ?_⟩
        exact q u H2 (Same.tr s1 s2) (by rw [ee]; exact iu) (by rw [ee]; exact vu)
      · have hx0 : ¬ x ≠ 0 := fun z => e (by rw [decide_eq_false (fun y => z (V.int.inj y))]; rfl)
        have ee : ev ks (n + 1) r (.tuple [.str "if", a, b2, c2]) = ev ks n r c2 := by rw [ev_if, ex]; exact if_neg hx0
        refine ⟨_, rfl, _, rfl, _, _, _, _, rfl, rfl, SqT.of ha1, at3, _, rfl, kv, v4, b, ks, g, k, c2, kvs, r, rfl, c1, i4.mono (ts_same s1), wc, by omega, fun u H2 s2 iu vu => ?_⟩
        exact q u H2 (Same.tr s1 s2) (by rw [ee]; exact iu) (by rw [ee]; exact vu)
end
end Sw
set_option Elab.async false
set_option linter.all false
set_option maxRecDepth 100000
set_option maxHeartbeats 4000000
/-! A hand: its rows, its step in plain Lean, how it lies in the heap. -/
namespace Sw
open PySem PySem.Spec PyProof.Rows L2
/-- how deep terms go -/
def tN : Nat := 8
/-- a row of the hand hd, the k-th of m -/
inductive RowOk (ks : List KR) (cs : List Ch) (hd : Hd) (m : Nat) (k : Nat) : PyData → Prop
  | set {x κ : Str} {e : PyData} : (x, κ) ∈ hd.bx → WT ks tN hd.bx κ e → k + 1 < m → RowOk ks cs hd m k (.tuple [.str "set", .str x, e])
  | send {c : Ch} {e : PyData} : c ∈ cs → c.fr = hd.nm → WT ks tN hd.bx c.kd e → k + 1 < m → RowOk ks cs hd m k (.tuple [.str "send", .str c.nm, e])
  | take {l x : Str} {c : Ch} : c ∈ cs → c.to = hd.nm → (x, c.kd) ∈ hd.bx → k + 1 < m → RowOk ks cs hd m k (.tuple [.str "take", .str l, .str c.nm, .str x])
  | tell {e : PyData} : WT ks tN hd.bx numK e → k + 1 < m → RowOk ks cs hd m k (.tuple [.str "tell", e])
  | go {j : Nat} : j < m → RowOk ks cs hd m k (.tuple [.str "go", .int (j : Int)])
  | ifr {e : PyData} {j : Nat} : WT ks tN hd.bx numK e → j < m → k + 1 < m → RowOk ks cs hd m k (.tuple [.str "if", e, .int (j : Int)])
  | end_ : RowOk ks cs hd m k (.tuple [.str "end"])
def RowsOk (ks : List KR) (cs : List Ch) (hd : Hd) : Prop := hd.rows ≠ [] ∧ hd.rows.length ≤ 100 ∧ ∀ (k : Nat) (r : PyData), hd.rows[k]? = some r → RowOk ks cs hd hd.rows.length k r
theorem RowOk.sh {ks : List KR} {cs : List Ch} {hd : Hd} {m k : Nat} {r : PyData} (h : RowOk ks cs hd m k r) : RowSh r := by
  cases h with
  | set => exact ⟨_, _, rfl, fun e => absurd e (by decide +kernel), fun e => absurd e (by decide +kernel)⟩
  | send => exact ⟨_, _, rfl, fun e => absurd e (by decide +kernel), fun e => absurd e (by decide +kernel)⟩
  | take => exact ⟨_, _, rfl, fun e => absurd e (by decide +kernel), fun e => absurd e (by decide +kernel)⟩
  | tell => exact ⟨_, _, rfl, fun e => absurd e (by decide +kernel), fun e => absurd e (by decide +kernel)⟩
  | go => exact ⟨_, _, rfl, fun _ => ⟨_, rfl⟩, fun e => absurd e (by decide +kernel)⟩
  | ifr => exact ⟨_, _, rfl, fun e => absurd e (by decide +kernel), fun _ => ⟨_, _, rfl⟩⟩
  | end_ => exact ⟨_, _, rfl, fun e => absurd e (by decide +kernel), fun e => absurd e (by decide +kernel)⟩
structure HandOk (ks : List KR) (cs : List Ch) (hd : Hd) : Prop where
  bn : (hd.bx.map (·.1)).Nodup
  bk : ∀ p ∈ hd.bx, Kd ks p.2
  bl : hd.bx.length ≤ 5
  rows : RowsOk ks cs hd
structure MOk (m : Make) : Prop where
  ks : KOk m.ks
  cn : (m.cs.map (·.nm)).Nodup
  cl : m.cs.length ≤ 100
  ck : ∀ c ∈ m.cs, Kd m.ks c.kd
  cf : ∀ c ∈ m.cs, (∃ h ∈ m.hs, h.nm = c.fr) ∧ ∃ h ∈ m.hs, h.nm = c.to
  hn : (m.hs.map (·.nm)).Nodup
  hl : m.hs.length ≤ 100
  h0 : m.hs ≠ []
  hd : ∀ h ∈ m.hs, HandOk m.ks m.cs h
/-- a hand's own state -/
structure HS where
  at_ : Nat
  held : EnvD
  notes : List Int
  done : Int
abbrev Qs := Str → List PyData
def setQ (q : Qs) (c : Str) (l : List PyData) : Qs := fun x => if x = c then l else q x
def wrd (r : PyData) : Str := sOf ((tOf r).getD 0 .none)
def arg (r : PyData) (i : Nat) : PyData := (tOf r).getD i .none
/-- the row behind, by the way -/
def adv (rs : List PyData) (i way : Nat) : Nat := (iOf ((tOf ((leads rs).getD i .none)).getD way .none)).toNat
/-- a step of a hand: what it is then, and the letters; none where nothing is done -/
def stepA (ks : List KR) (rs : List PyData) (hs : HS) (q : Qs) : Option (HS × Qs) :=
  if wrd (rs.getD hs.at_ .none) = "end" then none
  else if wrd (rs.getD hs.at_ .none) = "take" then
    match q (sOf (arg (rs.getD hs.at_ .none) 2)) with
    | [] => none
    | d :: l => some ({ hs with at_ := adv rs hs.at_ 0, held := putA hs.held (sOf (arg (rs.getD hs.at_ .none) 3)) d, done := hs.done + 1 }, setQ q (sOf (arg (rs.getD hs.at_ .none) 2)) l)
  else if wrd (rs.getD hs.at_ .none) = "send" then
    some ({ hs with at_ := adv rs hs.at_ 0, done := hs.done + 1 }, setQ q (sOf (arg (rs.getD hs.at_ .none) 1)) (q (sOf (arg (rs.getD hs.at_ .none) 1)) ++ [ev ks tN hs.held (arg (rs.getD hs.at_ .none) 2)]))
  else if wrd (rs.getD hs.at_ .none) = "set" then
    some ({ hs with at_ := adv rs hs.at_ 0, held := putA hs.held (sOf (arg (rs.getD hs.at_ .none) 1)) (ev ks tN hs.held (arg (rs.getD hs.at_ .none) 2)), done := hs.done + 1 }, q)
  else if wrd (rs.getD hs.at_ .none) = "tell" then
    some ({ hs with at_ := adv rs hs.at_ 0, notes := hs.notes ++ [iOf (ev ks tN hs.held (arg (rs.getD hs.at_ .none) 1))], done := hs.done + 1 }, q)
  else if wrd (rs.getD hs.at_ .none) = "if" then
    some ({ hs with at_ := adv rs hs.at_ (if iOf (ev ks tN hs.held (arg (rs.getD hs.at_ .none) 1)) = 0 then 1 else 0), done := hs.done + 1 }, q)
  else some ({ hs with at_ := adv rs hs.at_ 0, done := hs.done + 1 }, q)
/-- a hand's state is right -/
structure HSOk (ks : List KR) (hd : Hd) (hs : HS) : Prop where
  at_ : hs.at_ < hd.rows.length
  env : EnvOk ks hd.bx hs.held
  nm : hs.held.map (·.1) = hd.bx.map (·.1)
/-- the letters are right -/
def QsOk (ks : List KR) (cs : List Ch) (q : Qs) : Prop := ∀ c ∈ cs, ∀ d ∈ q c.nm, VOk ks c.kd d
/-! ### how a hand lies in the heap -/
structure LAd where
  p : Addr
  dx : Addr
  ra : Addr
  la : Addr
  hd : Addr
  cd : Addr
  gd : Addr
  nt : Addr
def loneFs (kv : V) (a : LAd) (i d : Int) : List (Str × V) :=
  [("kinds", kv), ("rows", .ref a.ra), ("leads", .ref a.la), ("at", .int i), ("held", .ref a.hd), ("coming", .ref a.cd), ("gone", .ref a.gd), ("notes", .ref a.nt), ("done", .int d)]
section
variable {kv : V} {a : LAd} {i d z : Int}
theorem lf_kinds : (loneFs kv a i d).lookup ("kinds" : Str) = some kv := by kernel_rfl
theorem lf_rows : (loneFs kv a i d).lookup ("rows" : Str) = some (V.ref a.ra) := by kernel_rfl
theorem lf_leads : (loneFs kv a i d).lookup ("leads" : Str) = some (V.ref a.la) := by kernel_rfl
theorem lf_at : (loneFs kv a i d).lookup ("at" : Str) = some (V.int i) := by kernel_rfl
theorem lf_held : (loneFs kv a i d).lookup ("held" : Str) = some (V.ref a.hd) := by kernel_rfl
theorem lf_coming : (loneFs kv a i d).lookup ("coming" : Str) = some (V.ref a.cd) := by kernel_rfl
theorem lf_gone : (loneFs kv a i d).lookup ("gone" : Str) = some (V.ref a.gd) := by kernel_rfl
theorem lf_notes : (loneFs kv a i d).lookup ("notes" : Str) = some (V.ref a.nt) := by kernel_rfl
theorem lf_done : (loneFs kv a i d).lookup ("done" : Str) = some (V.int d) := by kernel_rfl
theorem lf_no (m : Str) (h : (["kinds", "rows", "leads", "at", "held", "coming", "gone", "notes", "done"] : List Str).contains m = false) : (loneFs kv a i d).lookup m = none := by
  have h2 : m ∉ (loneFs kv a i d).map (·.1) := fun hm => by
    have : (["kinds", "rows", "leads", "at", "held", "coming", "gone", "notes", "done"] : List Str).contains m = true := List.contains_iff_mem.mpr hm
    rw [h] at this
    cases this
  exact List.lookup_eq_none_iff.mpr fun p hp => by
    have : m ≠ p.1 := fun e => h2 (by rw [e]; exact List.mem_map_of_mem (f := (·.1)) hp)
    simpa using this
theorem pf_at : putF "at" (.int z) (loneFs kv a i d) = loneFs kv a z d := by kernel_rfl
theorem pf_done : putF "done" (.int z) (loneFs kv a i d) = loneFs kv a i z := by kernel_rfl
theorem pf_held {b : Addr} : putF "held" (.ref b) (loneFs kv a i d) = loneFs kv { a with hd := b } i d := by kernel_rfl
theorem pf_notes {b : Addr} : putF "notes" (.ref b) (loneFs kv a i d) = loneFs kv { a with nt := b } i d := by kernel_rfl
end
/-- a dict of rows of letters -/
def lnD (ls : List (Str × Addr)) : List (Key × V) := ls.map fun x => ((Sum.inr x.1 : Key), V.ref x.2)
structure LoneAt (K : PySem.W.Frag) (H : Hp) (kv : V) (a : LAd) (rs : List PyData) (ci co : List (Str × Addr)) (hs : HS) : Prop where
  ob : H a.p = some (.ins (LC K) a.dx (loneFs kv a (hs.at_ : Int) hs.done))
  rw_ : Im H (.ref a.ra) (.tuple rs)
  la : ∃ ls, H a.la = some (.lst ls) ∧ Ims H ls (leads rs)
  hd : ∃ kvs, H a.hd = some (.dK kvs) ∧ Bx H kvs hs.held
  cd : H a.cd = some (.dK (lnD ci))
  gd : H a.gd = some (.dK (lnD co))
  nt : H a.nt = some (.lst (hs.notes.map V.int))
/-- rows of letters lie there -/
def Lines (H : Hp) (ls : List (Str × Addr)) (q : Qs) : Prop := ∀ x ∈ ls, ∃ xs, H x.2 = some (.lst xs) ∧ Ims H xs (q x.1)
/-- all that stands, but these, stays -/
def But (S : List Addr) (H H' : Hp) : Prop := ∀ b o, H b = some o → b ∉ S → H' b = some o
theorem But.refl {S : List Addr} {H : Hp} : But S H H := fun _ _ h _ => h
theorem But.trans {S : List Addr} {H H1 H2 : Hp} (a : But S H H1) (b : But S H1 H2) : But S H H2 := fun c o h n => b c o (a c o h n) n
theorem But.same {S : List Addr} {H H' : Hp} (s : Same H H') : But S H H' := fun b o h _ => s b o h
theorem But.sub {S S' : List Addr} {H H' : Hp} (h : But S H H') (l : ∀ b ∈ S, b ∈ S') : But S' H H' := fun b o e n => h b o e fun z => n (l b z)
theorem But.put {S : List Addr} {H H' : Hp} (h : But S H H') {b : Addr} (m : b ∈ S) (o : HO) : But S H (L2.upd H' b o) := fun c u e n => by
  rw [upd_ne (fun z => n (by rw [z]; exact m))]
  exact h c u e n
theorem But.new {S : List Addr} {H H' : Hp} (h : But S H H') {b : Addr} (m : H' b = none) (o : HO) : But S H (L2.upd H' b o) := fun c u e n => same_new m _ _ _ (h c u e n)
/-- tuples stay where the rest changes -/
theorem But.ts {S : List Addr} {H H' : Hp} (h : But S H H') (n : ∀ b ∈ S, ∀ xs, H b ≠ some (.tup xs)) : TS H H' := fun a xs e => h a _ e fun m => n a m xs e
section
variable {ls : List (Str × Addr)} {x : Str × Addr}
theorem lnD_get (nd : (ls.map (·.1)).Nodup) (m : x ∈ ls) : valV (lnD ls) (Sum.inr x.1 : Key) = some (.ref x.2) := by
  induction ls with
  | nil => cases m
  | cons y r ih =>
    rw [List.map_cons, List.nodup_cons] at nd
    by_cases c : y.1 = x.1
    · rcases List.mem_cons.mp m with e | e
      · subst e
        exact valV_pos (p := ((Sum.inr x.1 : Key), V.ref x.2)) rfl
      · exact absurd (by rw [c]; exact List.mem_map_of_mem (f := (·.1)) e) nd.1
    · rcases List.mem_cons.mp m with e | e
      · exact absurd (by rw [e]) c
      · have : valV (((Sum.inr y.1 : Key), V.ref y.2) :: lnD r) (Sum.inr x.1 : Key) = valV (lnD r) (Sum.inr x.1) := valV_neg (p := ((Sum.inr y.1 : Key), V.ref y.2)) fun z => c (Sum.inr.inj z)
        exact this.trans (ih nd.2 e)
theorem lnD_none {c : Str} (h : ∀ x ∈ ls, x.1 ≠ c) : valV (lnD ls) (Sum.inr c : Key) = none := by
  induction ls with
  | nil => rfl
  | cons y r ih =>
    have : valV (((Sum.inr y.1 : Key), V.ref y.2) :: lnD r) (Sum.inr c : Key) = valV (lnD r) (Sum.inr c) := valV_neg (p := ((Sum.inr y.1 : Key), V.ref y.2)) fun z => h y List.mem_cons_self (Sum.inr.inj z)
    exact this.trans (ih fun x hx => h x (List.mem_cons_of_mem _ hx))
end
end Sw
set_option Elab.async false
set_option linter.all false
set_option maxRecDepth 100000
set_option maxHeartbeats 4000000
/-! A hand's small methods. -/
namespace Sw
open PySem PySem.Spec PyProof.Rows L2
section
variable {P : Program} {w : World} {K : PySem.W.Frag} {mg : Str → Option Value} {base : Heap}
/-- a stand -/
def StandAt (H : Hp) (v : V) (i : Nat) (r : EnvD) : Prop := ∃ t d kvs, v = .ref t ∧ H t = some (.tup [.int (i : Int), .ref d]) ∧ H d = some (.dK kvs) ∧ Bx H kvs r
def spLStand (K : PySem.W.Frag) : Sp := fun vs H Q _ => ∃ (kv : V) (a : LAd) (rs : List PyData) (ci co : List (Str × Addr)) (hs : HS), vs = [.ref a.p] ∧ LoneAt K H kv a rs ci co hs ∧
  ∀ (t d : Addr) (kvs : List (Key × V)) (H' : Hp), Same H H' → H t = none → H d = none → H' t = some (.tup [.int (hs.at_ : Int), .ref d]) → H' d = some (.dK kvs) → Bx H' kvs hs.held → Q (.ref t) H'
theorem metLStand (T : Txt K mg) : C8.Met P w K mg base 1 (LC K) "stand" (spLStand K) [] := by
  refine mkMet T.cls_Lone T.me_Lone_stand T.fL_Stand scL_Stand (fun _ _ _ _ _ _ us hl => match us, hl with | [_], _ => rfl) (fun vs H Q E h => ?_) (fun cdv A outer s H vs Q E hr h => ?_)
  · obtain ⟨kv, a, rs, ci, co, hs, rfl, _⟩ := h
    rfl
  obtain ⟨kv, a, rs, ci, co, hs, rfl, L, q⟩ := h
  obtain ⟨kvs, hd, bx⟩ := L.hd
  refine ⟨_, PSs.nox (pss_one (ps_ret (pe_tup (pa_cons (pe_fld (pv 0) rfl) (pa_cons (pe_callTy call_dictD (by rfl) T.free_dict (by decide +kernel) (pa_cons (pe_fld (pv 0) rfl) pa_nil)) pa_nil))))), ?_⟩
  refine ⟨_, rfl, a.p, LC K, a.dx, _, _, rfl, L.ob, T.cls_Lone, T.no_Lone_at, lf_at, _, rfl, a.p, LC K, a.dx, _, _, rfl, L.ob, T.cls_Lone, T.no_Lone_held, lf_held, a.hd, kvs, rfl, .inl hd, fun d nd => ⟨sz, fun t nt => ?_⟩⟩
  have s1 : Same H (upd H d (.dK kvs)) := same_new nd _
  have s2 := same_new nt (.tup [.int (hs.at_ : Int), .ref d])
  have nt0 : H t = none := by
    cases e : H t with
    | none => rfl
    | some o => rw [s1 _ _ e] at nt; cases nt
  exact q t d kvs _ (Same.tr s1 s2) nt0 nd upd_same (s2 _ _ upd_same) (bx.mono (ts_same (Same.tr s1 s2)))
def spLTold (K : PySem.W.Frag) : Sp := fun vs H Q _ => ∃ (kv : V) (a : LAd) (rs : List PyData) (ci co : List (Str × Addr)) (hs : HS), vs = [.ref a.p] ∧ LoneAt K H kv a rs ci co hs ∧
  ∀ (l : Addr) (H' : Hp), Same H H' → H l = none → H' l = some (.lst (hs.notes.map V.int)) → Q (.ref l) H'
theorem metLTold (T : Txt K mg) : C8.Met P w K mg base 1 (LC K) "told" (spLTold K) [] := by
  refine mkMet T.cls_Lone T.me_Lone_told T.fL_Told scL_Told (fun _ _ _ _ _ _ us hl => match us, hl with | [_], _ => rfl) (fun vs H Q E h => ?_) (fun cdv A outer s H vs Q E hr h => ?_)
  · obtain ⟨kv, a, rs, ci, co, hs, rfl, _⟩ := h
    rfl
  obtain ⟨kv, a, rs, ci, co, hs, rfl, L, q⟩ := h
  refine ⟨_, PSs.nox (pss_one (ps_ret (pe_callTy call_list_of (by rfl) T.free_list (by decide +kernel) (pa_cons (pe_fld (pv 0) rfl) pa_nil)))), ?_⟩
  exact ⟨_, rfl, a.p, LC K, a.dx, _, _, rfl, L.ob, T.cls_Lone, T.no_Lone_notes, lf_notes, a.nt, _, rfl, .inl (SqL.of L.nt), fun d nd => q d _ (same_new nd _) nd upd_same⟩
def spLCount (K : PySem.W.Frag) : Sp := fun vs H Q _ => ∃ (kv : V) (a : LAd) (rs : List PyData) (ci co : List (Str × Addr)) (hs : HS), vs = [.ref a.p] ∧ LoneAt K H kv a rs ci co hs ∧ Q (.int hs.done) H
theorem metLCount (T : Txt K mg) : C8.Met P w K mg base 1 (LC K) "count" (spLCount K) [] := by
  refine mkMet T.cls_Lone T.me_Lone_count T.fL_Count scL_Count (fun _ _ _ _ _ _ us hl => match us, hl with | [_], _ => rfl) (fun vs H Q E h => ?_) (fun cdv A outer s H vs Q E hr h => ?_)
  · obtain ⟨kv, a, rs, ci, co, hs, rfl, _⟩ := h
    rfl
  obtain ⟨kv, a, rs, ci, co, hs, rfl, L, q⟩ := h
  refine ⟨_, PSs.nox (pss_one (ps_ret (pe_fld (pv 0) rfl))), ?_⟩
  exact ⟨_, rfl, a.p, LC K, a.dx, _, _, rfl, L.ob, T.cls_Lone, T.no_Lone_done, lf_done, q⟩
def spLValue (K : PySem.W.Frag) : Sp := fun vs H Q _ => ∃ (kv tv : V) (a : LAd) (rs : List PyData) (ci co : List (Str × Addr)) (hs : HS) (ks : List KR) (hd : Hd) (k : Str) (t : PyData), vs = [.ref a.p, tv] ∧ LoneAt K H kv a rs ci co hs ∧ KsAt H kv ks ∧ KOk ks ∧
  HSOk ks hd hs ∧ hd.bx.length ≤ 5 ∧ Im H tv t ∧ WT ks tN hd.bx k t ∧ ∀ u H', Same H H' → Im H' u (ev ks tN hs.held t) → VOk ks k (ev ks tN hs.held t) → Q u H'
theorem metLValue (T : Txt K mg) : C8.Met P w K mg base 21 (LC K) "value" (spLValue K) [] := by
  have cPWorth : C8.Cal P w K mg base 20 "worth" (spWorth tN) [] := calPWorth T tN
  refine mkMet (k := 20) T.cls_Lone T.me_Lone_value T.fL_Value scL_Value (fun _ _ _ _ _ _ us hl => match us, hl with | [_, _], _ => rfl) (fun vs H Q E h => ?_) (fun cdv A outer s H vs Q E hr h => ?_)
  · obtain ⟨kv, tv, a, rs, ci, co, hs, ks, hd, k, t, rfl, _⟩ := h
    rfl
  obtain ⟨kv, tv, a, rs, ci, co, hs, ks, hd, k, t, rfl, L, hk, ok, ho, h5, it, wt, q⟩ := h
  obtain ⟨kvs, hh, bx⟩ := L.hd
  have hl : kvs.length ≤ 5 := by
    have := congrArg List.length ho.nm
    rw [List.length_map, List.length_map] at this
    rw [bx.length, this]
    exact h5
  refine ⟨_, PSs.nox (pss_one (ps_ret (C8.pe_c cPWorth hr (by omega) rfl (pa_cons (pe_fld (pv 0) rfl) (pa_cons (pv 1) (pa_cons (pe_fld (pv 0) rfl) pa_nil)))))), ?_⟩
  exact ⟨_, rfl, a.p, LC K, a.dx, _, _, rfl, L.ob, T.cls_Lone, T.no_Lone_kinds, lf_kinds, _, rfl, _, rfl, a.p, LC K, a.dx, _, _, rfl, L.ob, T.cls_Lone, T.no_Lone_held, lf_held,
    kv, tv, a.hd, ks, hd.bx, k, t, kvs, hs.held, rfl, ⟨hk, ok, hh, bx, ho.env⟩, it, wt, (by show kvs.length + 8 ≤ 1000; omega), q⟩
def spCopied : Sp := fun vs H Q _ => ∃ (d : Addr) (ls : List (Str × Addr)) (q : Qs), vs = [.ref d] ∧ H d = some (.dK (lnD ls)) ∧ Lines H ls q ∧ (ls.map (·.1)).Nodup ∧ ls.length ≤ 100 ∧
  ∀ (e : Addr) (ls' : List (Str × Addr)) (H' : Hp), Same H H' → H e = none → (∀ x ∈ ls', H x.2 = none) → H' e = some (.dK (lnD ls')) → ls'.map (·.1) = ls.map (·.1) → Lines H' ls' q → Q (.ref e) H'
theorem none_of {H H' : Hp} {p : Addr} (s : Same H H') (n : H' p = none) : H p = none := by
  cases e : H p with
  | none => rfl
  | some o => rw [s _ _ e] at n; cases n
theorem calPCopied (T : Txt K mg) : C8.Cal P w K mg base 1 "copied" spCopied [] := by
  refine mkCal T.fPCopied scPCopied T.glo_copied (fun _ _ _ _ _ _ us hl => match us, hl with | [_], _ => rfl) (fun vs H Q E h => ?_) (fun cdv A outer s H vs Q E hr h => ?_)
  · obtain ⟨d, ls, z, rfl, _⟩ := h
    rfl
  obtain ⟨d, ls, z, rfl, hd, hl, nd, h100, q⟩ := h
  have hu := hu_of hr
  refine ⟨_, PSs.nox (pss_cons (ps_set (i := 1) scPCopied.nd rfl (Or.inl rfl) pe_dnewK)
      (pss_cons (ps_lock (ps_for PassesOwn.never rfl (pi_items (pv 0)) (pg_tupK (K := K) (n := 2) rfl rfl (pgs_cons (pg_name (i := 2) scPCopied.nd rfl (Or.inl rfl)) (pgs_cons (pg_name (i := 3) scPCopied.nd rfl (Or.inl rfl)) pgs_nil)))
        (pss_one (ps_dput hu (pv 1) (pv 2) (pe_callTy call_list_of (by rfl) T.free_list (by decide +kernel) (pa_cons (pv 3) pa_nil)) rfl))))
      (pss_one (ps_ret (pv 1))))), ?_⟩
  intro e ne
  have hde : d ≠ e := ne_of_none hd ne
  have hd1 : upd H e (.dK []) d = some (.dK (lnD ls)) := same_new ne _ _ _ hd
  refine ⟨d, _, hd1, trivial, fun od => ?_⟩
  refine ⟨_, rfl, d, od, _, rfl, upd_same, for_it (walk_items (d := d) (o := od) (kvs := lnD ls)) (fun i σ H' => ∃ ls' c1 c2, σ = [some (.ref d), some (.ref e), c1, c2] ∧ (∀ b o, H b = some o → b ≠ d → H' b = some o) ∧ H' d = some (.frz od (.dK (lnD ls))) ∧ H' e = some (.dK (lnD ls')) ∧
      ls'.map (·.1) = (ls.take i).map (·.1) ∧ Lines H' ls' z ∧ ∀ x ∈ ls', H x.2 = none)
    ⟨[], none, none, rfl, fun b o hb n => by rw [upd_ne n]; exact same_new ne _ _ _ hb, upd_same, by rw [upd_ne (Ne.symm hde)]; exact upd_same, rfl, fun x hx => absurd hx List.not_mem_nil, fun x hx => absurd hx List.not_mem_nil⟩
    (fun i σ H' _ hP => by obtain ⟨_, _, _, _, _, h, _⟩ := hP; exact h) ?_ ?_⟩
  · rintro i x σ H1 H2 hi ⟨ls', c1, c2, rfl, kp, hd2, he, nm, li, fr⟩ ⟨Tp, k, v, rfl, nT, rfl, hk, hv⟩
    have hil : i < ls.length := by rw [lnD, List.length_map] at hi; exact hi
    obtain ⟨y, hy⟩ : ∃ y, ls[i]? = some y := ⟨_, List.getElem?_eq_getElem hil⟩
    have hy2 : (lnD ls)[i]? = some ((Sum.inr y.1 : Key), V.ref y.2) := by rw [lnD, List.getElem?_map, hy]; rfl
    replace hk : (lnD ls)[i]?.map (fun kv => kV kv.1) = some k := hk
    replace hv : (lnD ls)[i]?.map Prod.snd = some v := hv
    rw [hy2] at hk hv
    cases hk
    cases hv
    have ym : y ∈ ls := List.mem_of_getElem? hy
    obtain ⟨xs, hxs, ixs⟩ := hl y ym
    have yd : y.2 ≠ d := fun e => by rw [e, hd] at hxs; cases hxs
    have hx2 : upd H1 Tp (.tup [kV (Sum.inr y.1), .ref y.2]) y.2 = some (.lst xs) := same_new nT _ _ _ (kp _ _ hxs yd)
    refine ⟨_, _, rfl, SqT.of upd_same, rfl, _, _, rfl, _, _, rfl, rfl, ?_⟩
    refine ⟨_, rfl, y.2, xs, rfl, .inl (SqL.of hx2), fun nl hnl => ?_⟩
    have s1 : Same H1 (upd H1 Tp (.tup [kV (Sum.inr y.1), .ref y.2])) := same_new nT _
    have s2 : Same (upd H1 Tp (.tup [kV (Sum.inr y.1), .ref y.2])) (upd (upd H1 Tp (.tup [kV (Sum.inr y.1), .ref y.2])) nl (.lst xs)) := same_new hnl _
    have s3 := Same.tr s1 s2
    have nlH : H nl = none := by
      cases e2 : H nl with
      | none => rfl
      | some o =>
        by_cases c : nl = d
        · rw [c, s1 _ _ hd2] at hnl; cases hnl
        · rw [s1 _ _ (kp _ _ e2 c)] at hnl; cases hnl
    have hn3 : upd (upd H1 Tp (.tup [kV (Sum.inr y.1), .ref y.2])) nl (.lst xs) nl = some (.lst xs) := upd_same
    generalize upd (upd H1 Tp (.tup [kV (Sum.inr y.1), .ref y.2])) nl (.lst xs) = H3 at s3 hn3
    have fresh : ∀ x ∈ ls', x.1 ≠ y.1 := fun x hx e2 => by
      have h1 : x.1 ∈ (ls.take i).map (·.1) := by rw [← nm]; exact List.mem_map_of_mem (f := (·.1)) hx
      rw [e2] at h1
      obtain ⟨w1, hw, ew⟩ := List.mem_map.mp h1
      obtain ⟨j, hj, ej⟩ := List.mem_iff_getElem.mp hw
      rw [List.length_take] at hj
      rw [List.getElem_take] at ej
      have h2 : (ls.map (·.1))[j]? = (ls.map (·.1))[i]? := by
        rw [List.getElem?_map, List.getElem?_map, hy, List.getElem?_eq_getElem (by omega), ej]
        exact congrArg some ew
      have := (List.getElem?_inj (by rw [List.length_map]; omega) nd).mp h2
      omega
    have lln : ls'.length = i := by
      have := congrArg List.length nm
      rw [List.length_map, List.length_map, List.length_take] at this
      omega
    have e1 : putK (lnD ls') (Sum.inr y.1 : Key) (.ref nl) = lnD (ls' ++ [(y.1, nl)]) := by
      rw [putK_new _ (lnD_none fresh), lnD, lnD, List.map_append]
      rfl
    refine ⟨_, rfl, _, rfl, e, _, rfl, DPut.k (k := Sum.inr y.1) (s3 _ _ he) (small1000 (by rw [lnD, List.length_map]; omega)), ?_⟩
    rw [e1]
    have ts : TS H (upd H3 e (.dK (lnD (ls' ++ [(y.1, nl)])))) := fun b us hb => by
      have bd : b ≠ d := fun z => by rw [z, hd] at hb; cases hb
      have be : b ≠ e := fun z => by rw [z, ne] at hb; cases hb
      rw [upd_ne be]
      exact s3 _ _ (kp _ _ hb bd)
    have ts2 : TS H1 (upd H3 e (.dK (lnD (ls' ++ [(y.1, nl)])))) := fun b us hb => by
      have be : b ≠ e := fun z => by rw [z, he] at hb; cases hb
      rw [upd_ne be]
      exact s3 _ _ hb
    refine ⟨ls' ++ [(y.1, nl)], _, _, rfl, fun b o hb n => ?_, ?_, upd_same, ?_, fun x hx => ?_, fun x hx => ?_⟩
    · rw [upd_ne (ne_of_none hb ne)]
      exact s3 _ _ (kp b o hb n)
    · rw [upd_ne hde]
      exact s3 _ _ hd2
    · rw [List.map_append, nm, List.take_succ, hy, List.map_append]
      rfl
    · rcases List.mem_append.mp hx with hx | hx
      · obtain ⟨us, h1, h2⟩ := li x hx
        have be : x.2 ≠ e := fun z => by rw [z, he] at h1; cases h1
        exact ⟨us, by rw [upd_ne be]; exact s3 _ _ h1, h2.mono ts2⟩
      · rw [List.mem_singleton] at hx
        subst hx
        have be : nl ≠ e := fun z => by rw [z, s3 _ _ he] at hn3; cases hn3
        exact ⟨xs, by rw [upd_ne be]; exact hn3, ixs.mono ts⟩
    · rcases List.mem_append.mp hx with hx | hx
      · exact fr x hx
      · rw [List.mem_singleton] at hx
        subst hx
        exact nlH
  · rintro σ H1 ⟨ls', c1, c2, rfl, kp, hd2, he, nm, li, fr⟩
    refine ⟨hd2, ?_⟩
    rw [List.take_of_length_le (by rw [lnD, List.length_map]; exact Nat.le_refl _)] at nm
    have ts : TS H1 (upd H1 d (.dK (lnD ls))) := fun b us hb => by
      have be : b ≠ d := fun z => by rw [z, hd2] at hb; cases hb
      rw [upd_ne be]
      exact hb
    refine ⟨_, rfl, q e ls' _ (fun b o hb => ?_) ne fr (by rw [upd_ne (Ne.symm hde)]; exact he) nm fun x hx => ?_⟩
    · by_cases c : b = d
      · subst c
        rw [upd_same]
        rw [hd] at hb
        exact hb
      · rw [upd_ne c]
        exact kp b o hb c
    · obtain ⟨us, h1, h2⟩ := li x hx
      have be : x.2 ≠ d := fun z => by rw [z, hd2] at h1; cases h1
      exact ⟨us, by rw [upd_ne be]; exact h1, h2.mono ts⟩
end
end Sw
set_option Elab.async false
set_option linter.all false
set_option maxRecDepth 100000
set_option maxHeartbeats 4000000
/-! A hand's step. -/
namespace Sw
open PySem PySem.Spec PyProof.Rows L2
/-! ### stepA, row by row -/
section
variable {ks : List KR} {rs : List PyData} {hs : HS} {q : Qs}
theorem sA_end (h : rs.getD hs.at_ .none = .tuple [.str "end"]) : stepA ks rs hs q = none := by
  unfold stepA
  rw [h]
  exact if_pos rfl
theorem sA_take {l c x : Str} (h : rs.getD hs.at_ .none = .tuple [.str "take", .str l, .str c, .str x]) :
    stepA ks rs hs q = (match q c with | [] => none | d :: ds => some ({ hs with at_ := adv rs hs.at_ 0, held := putA hs.held x d, done := hs.done + 1 }, setQ q c ds)) := by
  unfold stepA
  rw [h]
  exact (if_neg (c := ("take" : Str) = "end") (by decide +kernel)).trans (if_pos rfl)
theorem sA_send {c : Str} {e : PyData} (h : rs.getD hs.at_ .none = .tuple [.str "send", .str c, e]) :
    stepA ks rs hs q = some ({ hs with at_ := adv rs hs.at_ 0, done := hs.done + 1 }, setQ q c (q c ++ [ev ks tN hs.held e])) := by
  unfold stepA
  rw [h]
  exact (if_neg (c := ("send" : Str) = "end") (by decide +kernel)).trans <| (if_neg (c := ("send" : Str) = "take") (by decide +kernel)).trans (if_pos rfl)
theorem sA_set {x : Str} {e : PyData} (h : rs.getD hs.at_ .none = .tuple [.str "set", .str x, e]) :
    stepA ks rs hs q = some ({ hs with at_ := adv rs hs.at_ 0, held := putA hs.held x (ev ks tN hs.held e), done := hs.done + 1 }, q) := by
  unfold stepA
  rw [h]
  exact (if_neg (c := ("set" : Str) = "end") (by decide +kernel)).trans <| (if_neg (c := ("set" : Str) = "take") (by decide +kernel)).trans <| (if_neg (c := ("set" : Str) = "send") (by decide +kernel)).trans (if_pos rfl)
theorem sA_tell {e : PyData} (h : rs.getD hs.at_ .none = .tuple [.str "tell", e]) :
    stepA ks rs hs q = some ({ hs with at_ := adv rs hs.at_ 0, notes := hs.notes ++ [iOf (ev ks tN hs.held e)], done := hs.done + 1 }, q) := by
  unfold stepA
  rw [h]
  exact (if_neg (c := ("tell" : Str) = "end") (by decide +kernel)).trans <| (if_neg (c := ("tell" : Str) = "take") (by decide +kernel)).trans <| (if_neg (c := ("tell" : Str) = "send") (by decide +kernel)).trans <| (if_neg (c := ("tell" : Str) = "set") (by decide +kernel)).trans (if_pos rfl)
theorem sA_if {e j : PyData} (h : rs.getD hs.at_ .none = .tuple [.str "if", e, j]) :
    stepA ks rs hs q = some ({ hs with at_ := adv rs hs.at_ (if iOf (ev ks tN hs.held e) = 0 then 1 else 0), done := hs.done + 1 }, q) := by
  unfold stepA
  rw [h]
  exact (if_neg (c := ("if" : Str) = "end") (by decide +kernel)).trans <| (if_neg (c := ("if" : Str) = "take") (by decide +kernel)).trans <| (if_neg (c := ("if" : Str) = "send") (by decide +kernel)).trans <| (if_neg (c := ("if" : Str) = "set") (by decide +kernel)).trans <|
    (if_neg (c := ("if" : Str) = "tell") (by decide +kernel)).trans (if_pos rfl)
theorem sA_go {j : PyData} (h : rs.getD hs.at_ .none = .tuple [.str "go", j]) : stepA ks rs hs q = some ({ hs with at_ := adv rs hs.at_ 0, done := hs.done + 1 }, q) := by
  unfold stepA
  rw [h]
  exact (if_neg (c := ("go" : Str) = "end") (by decide +kernel)).trans <| (if_neg (c := ("go" : Str) = "take") (by decide +kernel)).trans <| (if_neg (c := ("go" : Str) = "send") (by decide +kernel)).trans <| (if_neg (c := ("go" : Str) = "set") (by decide +kernel)).trans <|
    (if_neg (c := ("go" : Str) = "tell") (by decide +kernel)).trans (if_neg (c := ("go" : Str) = "if") (by decide +kernel))
end
/-! ### where rows lead -/
theorem lead_at {rs : List PyData} {i : Nat} {r : PyData} (h : rs[i]? = some r) : (leads rs)[i]? = some (leadD i r) := by rw [leads, List.getElem?_mapIdx, h]; rfl
theorem leadD_go {i : Nat} {j : PyData} : leadD i (.tuple [.str "go", j]) = .tuple [j] := if_pos rfl
theorem leadD_if {i : Nat} {e j : PyData} : leadD i (.tuple [.str "if", e, j]) = .tuple [j, .int ((i : Int) + 1)] := (if_neg (c := ("if" : Str) = "go") (by decide +kernel)).trans (if_pos rfl)
theorem leadD_next {i : Nat} {w : Str} {l : List PyData} (h1 : w ≠ "go") (h2 : w ≠ "if") (h3 : w ≠ "end") : leadD i (.tuple (.str w :: l)) = .tuple [.int ((i : Int) + 1)] :=
  (if_neg (c := w = "go") h1).trans <| (if_neg (c := w = "if") h2).trans (if_neg (c := w = "end") h3)
theorem adv_of {rs : List PyData} {i way : Nat} {r : PyData} {l : List PyData} {nx : Nat} (h : rs[i]? = some r) (e : leadD i r = .tuple l) (n : l[way]? = some (.int (nx : Int))) : adv rs i way = nx := by
  have e1 : (leads rs).getD i .none = .tuple l := by
    rw [List.getD_eq_getElem?_getD, lead_at h, e]
    rfl
  unfold adv
  rw [e1]
  show (iOf (l.getD way .none)).toNat = nx
  rw [List.getD_eq_getElem?_getD, n]
  rfl
theorem getD_of {rs : List PyData} {i : Nat} {r : PyData} (h : rs[i]? = some r) : rs.getD i .none = r := by rw [List.getD_eq_getElem?_getD, h]; rfl
/-! ### the heap -/
section
variable {K : PySem.W.Frag} {H H' : Hp} {kv : V} {a : LAd} {rs : List PyData} {ci co : List (Str × Addr)} {hs : HS}
theorem LoneAt.keep (L : LoneAt K H kv a rs ci co hs) (t : TS H H') (h : ∀ b, (b = a.p ∨ b = a.la ∨ b = a.hd ∨ b = a.cd ∨ b = a.gd ∨ b = a.nt) → ∀ o, H b = some o → H' b = some o) : LoneAt K H' kv a rs ci co hs := by
  obtain ⟨ls, l1, l2⟩ := L.la
  obtain ⟨kvs, d1, d2⟩ := L.hd
  exact ⟨h _ (by simp) _ L.ob, L.rw_.mono t, ⟨ls, h _ (by simp) _ l1, l2.mono t⟩, ⟨kvs, h _ (by simp) _ d1, d2.mono t⟩, h _ (by simp) _ L.cd, h _ (by simp) _ L.gd, h _ (by simp) _ L.nt⟩
theorem LoneAt.same (L : LoneAt K H kv a rs ci co hs) (s : Same H H') : LoneAt K H' kv a rs ci co hs := L.keep (ts_same s) fun b _ o h => s b o h
/-- where a list that is none of its own is written -/
theorem LoneAt.line (L : LoneAt K H kv a rs ci co hs) {l : Addr} {xs ys : List V} (e : H l = some (.lst xs)) (n1 : l ≠ a.la) (n2 : l ≠ a.nt) : LoneAt K (upd H l (.lst ys)) kv a rs ci co hs := by
  obtain ⟨ls, l1, l2⟩ := L.la
  obtain ⟨kvs, d1, d2⟩ := L.hd
  refine L.keep (ts_lst e) fun b hb o h => ?_
  rw [upd_ne]
  · exact h
  · intro z
    subst z
    rcases hb with z | z | z | z | z | z
    · subst z; rw [e] at h; cases h; have := L.ob; rw [e] at this; cases this
    · exact n1 z
    · subst z; rw [e] at d1; cases d1
    · subst z; have := L.cd; rw [e] at this; cases this
    · subst z; have := L.gd; rw [e] at this; cases this
    · exact n2 z
theorem LoneAt.held (L : LoneAt K H kv a rs ci co hs) {kvs : List (Key × V)} {r : EnvD} (b : Bx H kvs r) (n1 : a.hd ≠ a.cd) (n2 : a.hd ≠ a.gd) : LoneAt K (upd H a.hd (.dK kvs)) kv a rs ci co { hs with held := r } := by
  obtain ⟨ls, l1, l2⟩ := L.la
  obtain ⟨kvs0, d1, d2⟩ := L.hd
  have t : TS H (upd H a.hd (.dK kvs)) := fun c xs h => by rw [upd_ne (fun z => by rw [z, d1] at h; cases h)]; exact h
  refine ⟨?_, L.rw_.mono t, ⟨ls, ?_, l2.mono t⟩, ⟨kvs, upd_same, b.mono t⟩, ?_, ?_, ?_⟩
  · rw [upd_ne (ne_of L.ob d1 (fun z => by cases z))]; exact L.ob
  · rw [upd_ne (ne_of l1 d1 (fun z => by cases z))]; exact l1
  · rw [upd_ne (Ne.symm n1)]; exact L.cd
  · rw [upd_ne (Ne.symm n2)]; exact L.gd
  · rw [upd_ne (ne_of L.nt d1 (fun z => by cases z))]; exact L.nt
theorem LoneAt.note (L : LoneAt K H kv a rs ci co hs) {ns : List Int} (n : a.la ≠ a.nt) : LoneAt K (upd H a.nt (.lst (ns.map V.int))) kv a rs ci co { hs with notes := ns } := by
  obtain ⟨ls, l1, l2⟩ := L.la
  obtain ⟨kvs0, d1, d2⟩ := L.hd
  have t : TS H (upd H a.nt (.lst (ns.map V.int))) := ts_lst L.nt
  refine ⟨?_, L.rw_.mono t, ⟨ls, ?_, l2.mono t⟩, ⟨kvs0, ?_, d2.mono t⟩, ?_, ?_, upd_same⟩
  · rw [upd_ne (ne_of L.ob L.nt (fun z => by cases z))]; exact L.ob
  · rw [upd_ne n]; exact l1
  · rw [upd_ne (ne_of d1 L.nt (fun z => by cases z))]; exact d1
  · rw [upd_ne (ne_of L.cd L.nt (fun z => by cases z))]; exact L.cd
  · rw [upd_ne (ne_of L.gd L.nt (fun z => by cases z))]; exact L.gd
theorem LoneAt.obj (L : LoneAt K H kv a rs ci co hs) (i : Nat) (d : Int) : LoneAt K (upd H a.p (.ins (LC K) a.dx (loneFs kv a (i : Int) d))) kv a rs ci co { hs with at_ := i, done := d } := by
  obtain ⟨ls, l1, l2⟩ := L.la
  obtain ⟨kvs0, d1, d2⟩ := L.hd
  have t : TS H (upd H a.p (.ins (LC K) a.dx (loneFs kv a (i : Int) d))) := fun c xs h => by rw [upd_ne (fun z => by rw [z, L.ob] at h; cases h)]; exact h
  refine ⟨upd_same, L.rw_.mono t, ⟨ls, ?_, l2.mono t⟩, ⟨kvs0, ?_, d2.mono t⟩, ?_, ?_, ?_⟩
  · rw [upd_ne (ne_of l1 L.ob (fun z => by cases z))]; exact l1
  · rw [upd_ne (ne_of d1 L.ob (fun z => by cases z))]; exact d1
  · rw [upd_ne (ne_of L.cd L.ob (fun z => by cases z))]; exact L.cd
  · rw [upd_ne (ne_of L.gd L.ob (fun z => by cases z))]; exact L.gd
  · rw [upd_ne (ne_of L.nt L.ob (fun z => by cases z))]; exact L.nt
/-- how its places stand apart -/
structure Adr (a : LAd) (ci co : List (Str × Addr)) : Prop where
  cin : (ci.map (·.1)).Nodup
  con : (co.map (·.1)).Nodup
  inj : ∀ x ∈ ci ++ co, ∀ y ∈ ci ++ co, x.2 = y.2 ↔ x.1 = y.1
  nt : ∀ x ∈ ci ++ co, x.2 ≠ a.nt
  la : ∀ x ∈ ci ++ co, x.2 ≠ a.la
  lant : a.la ≠ a.nt
  hdcd : a.hd ≠ a.cd
  hdgd : a.hd ≠ a.gd
theorem Lines.line {ls : List (Str × Addr)} {q : Qs} (L : Lines H ls q) (inj : ∀ x ∈ ls, ∀ y ∈ ls, x.2 = y.2 ↔ x.1 = y.1) {c : Str} {l : Addr} (m : (c, l) ∈ ls) {ys : List V} {ds : List PyData} (i : Ims H ys ds) : Lines (upd H l (.lst ys)) ls (setQ q c ds) := by
  intro x hx
  obtain ⟨xs0, h0, _⟩ := L _ m
  have t : TS H (upd H l (.lst ys)) := ts_lst h0
  by_cases e : x.2 = l
  · have e1 : x.1 = c := (inj x hx _ m).mp e
    exact ⟨ys, by rw [e]; exact upd_same, by rw [e1, setQ, if_pos rfl]; exact i.mono t⟩
  · have e1 : ¬ x.1 = c := fun z => e ((inj x hx _ m).mpr z)
    obtain ⟨xs, h1, h2⟩ := L x hx
    exact ⟨xs, by rw [upd_ne e]; exact h1, by rw [setQ, if_neg e1]; exact h2.mono t⟩
theorem Lines.keep {ls : List (Str × Addr)} {q : Qs} (L : Lines H ls q) (t : TS H H') (h : ∀ x ∈ ls, ∀ o, H x.2 = some o → H' x.2 = some o) : Lines H' ls q := fun x hx => by
  obtain ⟨xs, h1, h2⟩ := L x hx
  exact ⟨xs, h x hx _ h1, h2.mono t⟩
theorem Lines.same {ls : List (Str × Addr)} {q : Qs} (L : Lines H ls q) (s : Same H H') : Lines H' ls q := L.keep (ts_same s) fun _ _ o h => s _ o h
theorem Lines.off {ls : List (Str × Addr)} {q : Qs} (L : Lines H ls q) {b : Addr} {o o' : HO} (e : H b = some o) (n : ∀ xs, o ≠ .lst xs) (nt : ∀ xs, o ≠ .tup xs) : Lines (upd H b o') ls q := L.keep (fun c xs h => by rw [upd_ne (fun z => by rw [z, e] at h; cases h; exact nt _ rfl)]; exact h)
  fun x hx u h => by
    obtain ⟨xs, h1, _⟩ := L x hx
    rw [upd_ne (fun z => by rw [z, e] at h1; cases h1; exact n _ rfl)]
    exact h
end
/-- what a step of a hand may touch -/
def foot (a : LAd) (ci co : List (Str × Addr)) : List Addr := a.p :: a.hd :: a.nt :: (ci ++ co).map (·.2)
/-- behind the row, ahead of self.at = .. -/
def MidS (K : PySem.W.Frag) (H : Hp) (kv v : V) (a : LAd) (ci co : List (Str × Addr)) (ks : List KR) (rs : List PyData) (hs : HS) (q : Qs) (r : PyData) : L2.St → Hp → Prop := fun σ' H' =>
  ∃ (way : Nat) (hs1 : HS) (qq : Qs) (l : List PyData) (nx : Nat), σ' = [some (.ref a.p), some v, some (.int (way : Int))] ∧ But (foot a ci co) H H' ∧ LoneAt K H' kv a rs ci co hs1 ∧ hs1.at_ = hs.at_ ∧ hs1.done = hs.done ∧ Lines H' (ci ++ co) qq ∧
    leadD hs.at_ r = .tuple l ∧ l[way]? = some (.int (nx : Int)) ∧ stepA ks rs hs q = some ({ hs1 with at_ := nx, done := hs.done + 1 }, qq)
local macro_rules | `(tactic| walk_at "tst") => `(tactic| refine ⟨_, rfl, _, _, _, _, rfl, rfl, SqT.of (by assumption), at0, rfl, _, rfl, ?_⟩)
def spLStep (K : PySem.W.Frag) : Sp := fun vs H Q _ => ∃ (kv : V) (a : LAd) (ci co : List (Str × Addr)) (hs : HS) (ks : List KR) (cs : List Ch) (hd : Hd) (q : Qs), vs = [.ref a.p] ∧ LoneAt K H kv a hd.rows ci co hs ∧ KsAt H kv ks ∧ KOk ks ∧ HandOk ks cs hd ∧
  HSOk ks hd hs ∧ Lines H (ci ++ co) q ∧ Adr a ci co ∧ (∀ c ∈ cs, c.to = hd.nm → ∃ l, (c.nm, l) ∈ ci) ∧ (∀ c ∈ cs, c.fr = hd.nm → ∃ l, (c.nm, l) ∈ co) ∧ hs.notes.length ≤ 10000 ∧ (∀ c, (q c).length ≤ 10000) ∧
  (stepA ks hd.rows hs q = none → ∀ H', Same H H' → Q (.bl false) H') ∧ ∀ hs' q' H', stepA ks hd.rows hs q = some (hs', q') → But (foot a ci co) H H' → LoneAt K H' kv a hd.rows ci co hs' → Lines H' (ci ++ co) q' → Q (.bl true) H'
section
variable {P : Program} {w : World} {K : PySem.W.Frag} {mg : Str → Option Value} {base : Heap}
theorem metLStep (T : Txt K mg) : C8.Met P w K mg base 22 (LC K) "step" (spLStep K) [] := by
  have mL_Value := metLValue (P := P) (w := w) (base := base) T
  refine mkMet (k := 21) T.cls_Lone T.me_Lone_step T.fL_Step scL_Step (fun _ _ _ _ _ _ us hl => match us, hl with | [_], _ => rfl) (fun vs H Q E h => ?_) (fun cdv A outer s H vs Q E hr h => ?_)
  · obtain ⟨kv, a, ci, co, hs, ks, cs, hd, q, rfl, _⟩ := h
    rfl
  obtain ⟨kv, a, ci, co, hs, ks, cs, hd, q, rfl, L, hk, ok, hok, ho, ln, ad, cin, con, nb, qb, q0, q1⟩ := h
  have hu := hu_of hr
  obtain ⟨ra, xs, e, hra, ixs⟩ := L.rw_.tupE
  cases e
  obtain ⟨ls, hla, ils⟩ := L.la
  obtain ⟨kvs, hhd, bx⟩ := L.hd
  have hlt : hs.at_ < hd.rows.length := ho.at_
  obtain ⟨r, hr0⟩ : ∃ r, hd.rows[hs.at_]? = some r := ⟨_, List.getElem?_eq_getElem hlt⟩
  have rok := hok.rows.2.2 _ _ hr0
  have hrD := getD_of hr0
  obtain ⟨v, hv, iv⟩ := ixs.at hr0
  have cls := T.cls_Lone
  have h5 : kvs.length ≤ 5 := by
    have := congrArg List.length ho.nm
    rw [List.length_map, List.length_map] at this
    have := hok.bl
    rw [bx.length]
    omega
  refine ⟨_, PSs.nox (pss_cons (ps_set (i := 1) scL_Step.nd rfl (Or.inl rfl) (pe_ix (ix_tupK (K := K) rfl) (pe_fld (pv 0) rfl) (pe_fld (pv 0) rfl) (fun _ _ => rfl)))
      (C8.pss_cut (ps_if (PW.pt (pw_or (pt_cmpR op_eq (pe_ix (ix_tupK (K := K) rfl) (pv 1) pe_int (fun _ _ => rfl)) pe_str (nomark _)) (pw_or1 (PW.pt (pw_and (pt_cmpR op_eq (pe_ix (ix_tupK (K := K) rfl) (pv 1) pe_int (fun _ _ => rfl)) pe_str (nomark _)) (pw_and1 (pt_cmpR (op_eqE hr.units0) (pe_dget hu (pe_fld (pv 0) rfl) (pe_ix (ix_tupK (K := K) rfl) (pv 1) pe_int (fun _ _ => rfl)) (fun _ _ => rfl)) (pe_lst pa_nil) (nomark _)))))))) (pss_one (ps_ret pe_bl)) pss_nil)
      (pss_cons (ps_set (i := 2) scL_Step.nd rfl (Or.inl rfl) pe_int)
      (C8.pss_cut (ps_if (pt_cmpR op_eq (pe_ix (ix_tupK (K := K) rfl) (pv 1) pe_int (fun _ _ => rfl)) pe_str (nomark _)) (pss_one (ps_dput hu (pe_fld (pv 0) rfl) (pe_ix (ix_tupK (K := K) rfl) (pv 1) pe_int (fun _ _ => rfl)) (pe_bm PySem.F.plainAttrs_list PySem.F.slot_list_pop PySem.F.type_list_pop mt_popAt (pe_dget hu (pe_fld (pv 0) rfl) (pe_ix (ix_tupK (K := K) rfl) (pv 1) pe_int (fun _ _ => rfl)) (fun _ _ => rfl)) (pa_cons pe_int pa_nil)) rfl)) (pss_one (ps_if (pt_cmpR op_eq (pe_ix (ix_tupK (K := K) rfl) (pv 1) pe_int (fun _ _ => rfl)) pe_str (nomark _)) (pss_one (ps_expr (pe_bm PySem.F.plainAttrs_list PySem.F.slot_list_append PySem.F.type_list_append mt_append (pe_dget hu (pe_fld (pv 0) rfl) (pe_ix (ix_tupK (K := K) rfl) (pv 1) pe_int (fun _ _ => rfl)) (fun _ _ => rfl)) (pa_cons (C8.pe_mt mL_Value hr (by omega) (pv 0) (pa_cons (pe_ix (ix_tupK (K := K) rfl) (pv 1) pe_int (fun _ _ => rfl)) pa_nil)) pa_nil)))) (pss_one (ps_if (pt_cmpR op_eq (pe_ix (ix_tupK (K := K) rfl) (pv 1) pe_int (fun _ _ => rfl)) pe_str (nomark _)) (pss_one (ps_dput hu (pe_fld (pv 0) rfl) (pe_ix (ix_tupK (K := K) rfl) (pv 1) pe_int (fun _ _ => rfl)) (C8.pe_mt mL_Value hr (by omega) (pv 0) (pa_cons (pe_ix (ix_tupK (K := K) rfl) (pv 1) pe_int (fun _ _ => rfl)) pa_nil)) rfl)) (pss_one (ps_if (pt_cmpR op_eq (pe_ix (ix_tupK (K := K) rfl) (pv 1) pe_int (fun _ _ => rfl)) pe_str (nomark _)) (pss_one (ps_expr (pe_bm PySem.F.plainAttrs_list PySem.F.slot_list_append PySem.F.type_list_append mt_append (pe_fld (pv 0) rfl) (pa_cons (C8.pe_mt mL_Value hr (by omega) (pv 0) (pa_cons (pe_ix (ix_tupK (K := K) rfl) (pv 1) pe_int (fun _ _ => rfl)) pa_nil)) pa_nil)))) (pss_one (ps_if (pt_cmpR op_eq (pe_ix (ix_tupK (K := K) rfl) (pv 1) pe_int (fun _ _ => rfl)) pe_str (nomark _)) (pss_one (ps_set (i := 2) scL_Step.nd rfl (Or.inl rfl) (pe_callTy call_int1 (by rfl) T.free_int (by decide +kernel) (pa_cons (pe_cmpR op_eq (C8.pe_mt mL_Value hr (by omega) (pv 0) (pa_cons (pe_ix (ix_tupK (K := K) rfl) (pv 1) pe_int (fun _ _ => rfl)) pa_nil)) pe_int (nomark _)) pa_nil)))) pss_nil)))))))))
      (pss_cons (ps_fld (pv 0) (pe_ix (ix_tupK (K := K) rfl) (pe_ix (ix_listK (K := K) rfl) (pe_fld (pv 0) rfl) (pe_fld (pv 0) rfl) (fun _ _ => rfl)) (pv 2) (fun _ _ => rfl)) rfl)
      (pss_cons (ps_fldaug (pv 0) pe_int in_add)
      (pss_one (ps_ret pe_bl)))))))), ?_⟩
  refine ⟨_, rfl, a.p, LC K, a.dx, _, _, rfl, L.ob, cls, T.no_Lone_rows, lf_rows, _, rfl, a.p, LC K, a.dx, _, _, rfl, L.ob, cls, T.no_Lone_at, lf_at, _, _, _, _, rfl, rfl, SqT.of hra, atI_nat hv, ?_⟩
  have few : (loneFs kv a (hs.at_ : Int) hs.done).length < 1000 := by show 9 < 1000; decide
  refine ⟨fun σ' H' => σ' = [some (.ref a.p), some v, none] ∧ Same H H' ∧ wrd r ≠ "end" ∧ ∀ l c x, r = .tuple [.str "take", .str l, .str c, .str x] → q c ≠ [], ?_, ?_⟩
  · -- at an end, at a take without letters: nothing is done
    have other : ∀ (w : Str) (l : List PyData), r = .tuple (.str w :: l) → w ≠ "end" → w ≠ "take" → (wrd r ≠ "end" ∧ ∀ l c x, r = .tuple [.str "take", .str l, .str c, .str x] → q c ≠ []) := fun w l e n1 n2 =>
      ⟨by rw [e]; exact n1, fun l c x z => by rw [e] at z; exact absurd (by injection z with z; injection z with z _; injection z) n2⟩
    obtain ⟨w, rest, er, _⟩ := rok.sh
    by_cases ne : w = "end"
    · subst ne
      cases rok with
      | end_ =>
        obtain ⟨b, v1, rfl, hb, i1⟩ := iv.t1
        cases i1.strE
        walk_at "tst"
        refine strT rfl ?_
        refine iteT ?_
        exact q0 (sA_end hrD) H same_refl
      | _ => injection er with z; injection z with z _; injection z with z; exact absurd z (by decide +kernel)
    by_cases nt : w = "take"
    · subst nt
      cases rok with
      | @take l x c hc hto hbx hnx =>
        obtain ⟨b, v1, v2, v3, v4, rfl, hb, i1, i2, i3, i4⟩ := iv.t4
        cases i1.strE
        cases i3.strE
        obtain ⟨ln_, hln⟩ := cin c hc hto
        obtain ⟨ys, hys, iys⟩ := ln _ (List.mem_append_left _ hln)
        have dg : DGet H a.cd (.str c.nm) (some (.ref ln_)) := lnD_get ad.cin hln ▸ DGet.k (k := Sum.inr c.nm) L.cd
        walk_at "tst"
        refine strF (by decide +kernel) ?_
        walk_at "tst"
        refine strT rfl ?_
        refine ⟨_, rfl, a.p, LC K, a.dx, _, _, rfl, L.ob, cls, T.no_Lone_coming, lf_coming, _, rfl, _, _, _, _, rfl, rfl, SqT.of hb, at2, a.cd, .ref ln_, rfl, dg, sz, fun p np => ?_⟩
        have s1 : Same H (upd H p (.lst [])) := same_new np _
        refine ⟨ln_, p, ys, rfl, rfl, SqL.of (s1 _ _ hys), SqL.of upd_same, _, rfl, ?_⟩
        cases hq : q c.nm with
        | nil =>
          rw [hq] at iys
          cases iys
          refine iteT ?_
          exact q0 (by rw [sA_take hrD, hq]) _ s1
        | cons d ds =>
          rw [hq] at iys
          obtain ⟨y, us, rfl, _, _⟩ := iys.tail
          refine iteF ?_
          refine ⟨rfl, s1, by show ("take" : Str) ≠ "end"; decide +kernel, fun l c x z => ?_⟩
          injection z with z
          injection z with _ z
          injection z with _ z
          injection z with z _
          injection z with z
          rw [← z, hq]
          exact List.cons_ne_nil _ _
      | _ => injection er with z; injection z with z _; injection z with z; exact absurd z (by decide +kernel)
    · rw [er] at iv
      obtain ⟨b, v1, us, rfl, hb, i1, _⟩ := iv.tHead
      cases i1.strE
      walk_at "tst"
      refine strF ne ?_
      walk_at "tst"
      refine strF nt ?_
      refine iteF ?_
      exact ⟨rfl, same_refl, other w rest er ne nt⟩
  rintro σ0 H0 ⟨rfl, s0, nend, ntake⟩
  replace L := L.same s0
  replace ln := ln.same s0
  replace hk : KsAt H0 kv ks := hk.mono (ts_same s0)
  replace iv := iv.mono (ts_same s0)
  replace hhd := s0 _ _ hhd
  replace bx := bx.mono (ts_same s0)
  have bt0 : But (foot a ci co) H H0 := .same s0
  have mp : a.p ∈ foot a ci co := List.mem_cons_self
  have mh : a.hd ∈ foot a ci co := List.mem_cons_of_mem _ List.mem_cons_self
  have mn : a.nt ∈ foot a ci co := List.mem_cons_of_mem _ (List.mem_cons_of_mem _ List.mem_cons_self)
  have ml : ∀ x ∈ ci ++ co, x.2 ∈ foot a ci co := fun x hx => List.mem_cons_of_mem _ (List.mem_cons_of_mem _ (List.mem_cons_of_mem _ (List.mem_map_of_mem (f := (·.2)) hx)))
  refine ⟨MidS K H kv v a ci co ks hd.rows hs q r, ?_, ?_⟩
  · -- the row
    have nx1 : hs.at_ + 1 = hs.at_ + 1 := rfl
    cases rok with
    | end_ => exact absurd rfl nend
    | @go j hj =>
      obtain ⟨b, v1, v2, rfl, hb, i1, i2⟩ := iv.t2
      cases i1.strE
      walk_at "tst"
      refine strF (by decide +kernel) ?_
      walk_at "tst"
      refine strF (by decide +kernel) ?_
      walk_at "tst"
      refine strF (by decide +kernel) ?_
      walk_at "tst"
      refine strF (by decide +kernel) ?_
      walk_at "tst"
      refine strF (by decide +kernel) ?_
      exact ⟨0, hs, q, _, j, rfl, bt0, L, rfl, rfl, ln, leadD_go, rfl, by rw [sA_go hrD, adv_of hr0 leadD_go rfl]⟩
    | @take l x c hc hto hbx hnx =>
      obtain ⟨b, v1, v2, v3, v4, rfl, hb, i1, i2, i3, i4⟩ := iv.t4
      cases i1.strE
      cases i3.strE
      cases i4.strE
      obtain ⟨ln_, hln⟩ := cin c hc hto
      have hlm := List.mem_append_left co hln
      obtain ⟨ys, hys, iys⟩ := ln _ hlm
      obtain ⟨d, ds, hq⟩ : ∃ d ds, q c.nm = d :: ds := by
        cases e : q c.nm with
        | nil => exact absurd e (ntake l c.nm x rfl)
        | cons d ds => exact ⟨d, ds, rfl⟩
      have hq' : q (c.nm, ln_).1 = d :: ds := hq
      rw [hq'] at iys
      obtain ⟨y, us, rfl, iy, ius⟩ := iys.tail
      have dg : DGet H0 a.cd (.str c.nm) (some (.ref ln_)) := lnD_get ad.cin hln ▸ DGet.k (k := Sum.inr c.nm) L.cd
      have L1 : LoneAt K (upd H0 ln_ (.lst us)) kv a hd.rows ci co hs := L.line hys (ad.la _ hlm) (ad.nt _ hlm)
      have t1 : TS H0 (upd H0 ln_ (.lst us)) := ts_lst hys
      have hb1 := t1 _ _ hb
      have ln1 : Lines (upd H0 ln_ (.lst us)) (ci ++ co) (setQ q c.nm ds) := ln.line ad.inj hlm ius
      have hhd1 : upd H0 ln_ (.lst us) a.hd = some (.dK kvs) := by
        rw [upd_ne (ne_of hhd hys (fun z => by cases z))]
        exact hhd
      have bx1 := (bx.mono t1).put (x := x) (iy.mono t1)
      have lk : (putK kvs (Sum.inr x : Key) y).length ≤ 1000 := by
        have z := bx1.length
        have z2 := @putA_len hs.held x d
        have z3 := bx.length
        omega
      have lead := leadD_next (i := hs.at_) (w := "take") (l := [.str l, .str c.nm, .str x]) (by decide +kernel) (by decide +kernel) (by decide +kernel)
      have ln2 := ln1.off (o' := .dK (putK kvs (Sum.inr x : Key) y)) hhd1 (fun _ z => by cases z) (fun _ z => by cases z)
      walk_at "tst"
      refine strT rfl ?_
      refine ⟨_, rfl, a.p, LC K, a.dx, _, _, rfl, L.ob, cls, T.no_Lone_coming, lf_coming, _, rfl, _, _, _, _, rfl, rfl, SqT.of hb, at2, a.cd, .ref ln_, rfl, dg, Or.inl ⟨rfl, _, SqL.of hys⟩, ln_, y :: us, 0, 0, y, rfl, rfl, hys, (by decide), (by decide), (by simp [seqIndex?]), rfl, ?_⟩
      refine ⟨_, rfl, a.p, LC K, a.dx, _, _, rfl, L1.ob, cls, T.no_Lone_held, lf_held, _, rfl, _, _, _, _, rfl, rfl, SqT.of hb1, at3, a.hd, _, rfl, DPut.k (k := Sum.inr x) hhd1 (small1000 (by omega)), ?_⟩
      exact ⟨0, { hs with held := putA hs.held x d }, _, _, hs.at_ + 1, rfl, (bt0.put (ml _ hlm) _).put mh _, L1.held bx1 ad.hdcd ad.hdgd, rfl, rfl, ln2, lead, rfl, by rw [sA_take hrD, hq, adv_of hr0 lead rfl]⟩
    | @send c e hc hfr hwt hnx =>
      obtain ⟨b, v1, v2, v3, rfl, hb, i1, i2, i3⟩ := iv.t3
      cases i1.strE
      cases i2.strE
      obtain ⟨ln_, hln⟩ := con c hc hfr
      have hlm := List.mem_append_right ci hln
      obtain ⟨ys, hys, iys⟩ := ln _ hlm
      have hb10 := qb c.nm
      have yl : ys.length ≤ 10000 := by rw [iys.length]; exact hb10
      have dg : DGet H0 a.gd (.str c.nm) (some (.ref ln_)) := lnD_get ad.con hln ▸ DGet.k (k := Sum.inr c.nm) L.gd
      have lead := leadD_next (i := hs.at_) (w := "send") (l := [.str c.nm, e]) (by decide +kernel) (by decide +kernel) (by decide +kernel)
      walk_at "tst"
      refine strF (by decide +kernel) ?_
      walk_at "tst"
      refine strT rfl ?_
      refine ⟨_, rfl, a.p, LC K, a.dx, _, _, rfl, L.ob, cls, T.no_Lone_gone, lf_gone, _, rfl, _, _, _, _, rfl, rfl, SqT.of hb, at1, a.gd, .ref ln_, rfl, dg, Or.inl ⟨rfl, _, SqL.of hys⟩, _, rfl, a.p, a.dx, _, rfl, L.ob, lf_no _ (by decide +kernel), _, rfl, _, _, _, _, rfl, rfl, SqT.of hb, at2,
        kv, v3, a, hd.rows, ci, co, hs, ks, hd, c.kd, e, rfl, L, hk, ok, ho, hok.bl, i3, hwt, fun u H1 s1 iu vu => ⟨ln_, ys, u, rfl, rfl, s1 _ _ hys, Nat.lt_of_le_of_lt yl (by decide), ?_⟩⟩
      exact ⟨0, hs, _, _, hs.at_ + 1, rfl, (bt0.trans (.same s1)).put (ml _ hlm) _, (L.same s1).line (s1 _ _ hys) (ad.la _ hlm) (ad.nt _ hlm), rfl, rfl, (ln.same s1).line ad.inj hlm ((iys.mono (ts_same s1)).snoc iu), lead, rfl, by rw [sA_send hrD, adv_of hr0 lead rfl]⟩
    | @set x κ e hx hwt hnx =>
      obtain ⟨b, v1, v2, v3, rfl, hb, i1, i2, i3⟩ := iv.t3
      cases i1.strE
      cases i2.strE
      have lead := leadD_next (i := hs.at_) (w := "set") (l := [.str x, e]) (by decide +kernel) (by decide +kernel) (by decide +kernel)
      walk_at "tst"
      refine strF (by decide +kernel) ?_
      walk_at "tst"
      refine strF (by decide +kernel) ?_
      walk_at "tst"
      refine strT rfl ?_
      refine ⟨_, rfl, a.p, a.dx, _, rfl, L.ob, lf_no _ (by decide +kernel), _, rfl, _, _, _, _, rfl, rfl, SqT.of hb, at2,
        kv, v3, a, hd.rows, ci, co, hs, ks, hd, κ, e, rfl, L, hk, ok, ho, hok.bl, i3, hwt, fun u H1 s1 iu vu => ?_⟩
      have L1 := L.same s1
      have hhd1 := s1 _ _ hhd
      have bx1 := (bx.mono (ts_same s1)).put (x := x) iu
      refine ⟨_, rfl, a.p, LC K, a.dx, _, _, rfl, L1.ob, cls, T.no_Lone_held, lf_held, _, rfl, _, _, _, _, rfl, rfl, SqT.of (s1 _ _ hb), at1, a.hd, _, rfl, DPut.k (k := Sum.inr x) hhd1 (small1000 (by omega)), ?_⟩
      exact ⟨0, { hs with held := putA hs.held x (ev ks tN hs.held e) }, q, _, hs.at_ + 1, rfl, (bt0.trans (.same s1)).put mh _, L1.held bx1 ad.hdcd ad.hdgd, rfl, rfl, (ln.same s1).off hhd1 (fun _ z => by cases z) (fun _ z => by cases z), lead, rfl, by rw [sA_set hrD, adv_of hr0 lead rfl]⟩
    | @tell e hwt hnx =>
      obtain ⟨b, v1, v2, rfl, hb, i1, i2⟩ := iv.t2
      cases i1.strE
      have lead := leadD_next (i := hs.at_) (w := "tell") (l := [e]) (by decide +kernel) (by decide +kernel) (by decide +kernel)
      walk_at "tst"
      refine strF (by decide +kernel) ?_
      walk_at "tst"
      refine strF (by decide +kernel) ?_
      walk_at "tst"
      refine strF (by decide +kernel) ?_
      walk_at "tst"
      refine strT rfl ?_
      refine ⟨_, rfl, a.p, LC K, a.dx, _, _, rfl, L.ob, cls, T.no_Lone_notes, lf_notes, Or.inl ⟨rfl, _, SqL.of L.nt⟩, _, rfl, a.p, a.dx, _, rfl, L.ob, lf_no _ (by decide +kernel), _, rfl, _, _, _, _, rfl, rfl, SqT.of hb, at1,
        kv, v2, a, hd.rows, ci, co, hs, ks, hd, numK, e, rfl, L, hk, ok, ho, hok.bl, i2, hwt, fun u H1 s1 iu vu => ?_⟩
      obtain ⟨z, ez, hz⟩ := vu.numE ok
      rw [ez] at iu
      cases iu.intE
      have L1 := L.same s1
      have e1 : hs.notes.map V.int ++ [V.int z] = (hs.notes ++ [z]).map V.int := by rw [List.map_append]; rfl
      refine ⟨a.nt, _, .int z, rfl, rfl, L1.nt, Nat.lt_of_le_of_lt (by rw [List.length_map]; exact nb) (by decide), ?_⟩
      rw [e1]
      exact ⟨0, { hs with notes := hs.notes ++ [z] }, q, _, hs.at_ + 1, rfl, (bt0.trans (.same s1)).put mn _, L1.note ad.lant, rfl, rfl, (ln.same s1).keep (ts_lst L1.nt) (fun y hy o h => by rw [upd_ne (ad.nt y hy)]; exact h), lead, rfl, by rw [sA_tell hrD, adv_of hr0 lead rfl, ez]; rfl⟩
    | @ifr e j hwt hj hnx =>
      obtain ⟨b, v1, v2, v3, rfl, hb, i1, i2, i3⟩ := iv.t3
      cases i1.strE
      walk_at "tst"
      refine strF (by decide +kernel) ?_
      walk_at "tst"
      refine strF (by decide +kernel) ?_
      walk_at "tst"
      refine strF (by decide +kernel) ?_
      walk_at "tst"
      refine strF (by decide +kernel) ?_
      walk_at "tst"
      refine strT rfl ?_
      refine ⟨_, rfl, a.p, a.dx, _, rfl, L.ob, lf_no _ (by decide +kernel), _, rfl, _, _, _, _, rfl, rfl, SqT.of hb, at1,
        kv, v2, a, hd.rows, ci, co, hs, ks, hd, numK, e, rfl, L, hk, ok, ho, hok.bl, i2, hwt, fun u H1 s1 iu vu => ?_⟩
      obtain ⟨z, ez, hz⟩ := vu.numE ok
      rw [ez] at iu
      cases iu.intE
      refine ⟨rfl, .inr ⟨_, rfl, ?_⟩⟩
      by_cases hz0 : z = 0
      · subst hz0
        rw [decide_eq_true rfl, if_pos rfl]
        exact ⟨1, hs, q, _, hs.at_ + 1, rfl, bt0.trans (.same s1), L.same s1, rfl, rfl, ln.same s1, leadD_if, rfl, by rw [sA_if hrD, ez, if_pos (show iOf (.int 0) = 0 from rfl), adv_of hr0 leadD_if (way := 1) (nx := hs.at_ + 1) rfl]⟩
      · rw [decide_eq_false (fun y => hz0 (V.int.inj y)), if_neg Bool.false_ne_true]
        exact ⟨0, hs, q, _, j, rfl, bt0.trans (.same s1), L.same s1, rfl, rfl, ln.same s1, leadD_if, rfl, by rw [sA_if hrD, ez, if_neg (show ¬ iOf (.int z) = 0 from hz0), adv_of hr0 leadD_if (way := 0) (nx := j) rfl]⟩
  · -- self.at = self.leads[self.at][way]; self.done += 1; return True
    rintro σ1 H1 ⟨way, hs1, qq, l, nx, rfl, bt, L1, e1, e2, ln1, hl, hn, hst⟩
    obtain ⟨ls1, g1, g2⟩ := L1.la
    obtain ⟨lv, k1, k2⟩ := g2.at (lead_at hr0)
    rw [hl] at k2
    obtain ⟨lt, zs, rfl, hlt2, izs⟩ := k2.tupE
    obtain ⟨zv, hzv, izv⟩ := izs.at hn
    cases izv.intE
    rw [← e1] at k1
    have few1 : (loneFs kv a (hs1.at_ : Int) hs1.done).length < 1000 := by show 9 < 1000; decide
    have few2 : (loneFs kv a (nx : Int) hs1.done).length < 1000 := by show 9 < 1000; decide
    refine ⟨_, rfl, a.p, LC K, a.dx, _, _, rfl, L1.ob, cls, T.no_Lone_leads, lf_leads, _, rfl, a.p, LC K, a.dx, _, _, rfl, L1.ob, cls, T.no_Lone_at, lf_at, _, _, _, _, rfl, rfl, SqL.of g1, atI_nat k1, _, rfl, _, _, _, _, rfl, rfl, SqT.of hlt2, atI_nat hzv,
      _, rfl, a.p, LC K, a.dx, _, rfl, L1.ob, cls, T.no_Lone_at, few1, ?_⟩
    have ob2 : upd H1 a.p (.ins (LC K) a.dx (putF "at" (.int (nx : Int)) (loneFs kv a (hs1.at_ : Int) hs1.done))) a.p = some (.ins (LC K) a.dx (loneFs kv a (nx : Int) hs1.done)) := by rw [upd_same, pf_at]
    refine ⟨_, rfl, a.p, LC K, a.dx, _, _, rfl, ob2, cls, T.no_Lone_done, lf_done, _, _, rfl, rfl, a.dx, _, ob2, few2, ?_⟩
    show Q (.bl true) (upd (upd H1 a.p (.ins (LC K) a.dx (putF "at" (.int (nx : Int)) (loneFs kv a (hs1.at_ : Int) hs1.done)))) a.p (.ins (LC K) a.dx (putF "done" (.int (hs1.done + 1)) (loneFs kv a (nx : Int) hs1.done))))
    rw [upd_upd, pf_done]
    refine q1 _ _ _ hst (bt.put mp _) ?_ (ln1.off L1.ob (fun _ z => by cases z) (fun _ z => by cases z))
    have := L1.obj nx (hs1.done + 1)
    rw [e2] at this ⊢
    exact this
end
end Sw
set_option Elab.async false
set_option linter.all false
set_option maxRecDepth 100000
set_option maxHeartbeats 4000000
/-! A hand's begin. -/
namespace Sw
open PySem PySem.Spec PyProof.Rows L2
theorem putA_new {r : EnvD} {x : Str} {d : PyData} (h : x ∉ r.map (·.1)) : putA r x d = r ++ [(x, d)] := by
  unfold putA
  rw [if_neg]
  rw [List.any_eq_true]
  rintro ⟨p, hp, e⟩
  exact h (by rw [← of_decide_eq_true e]; exact List.mem_map_of_mem (f := (·.1)) hp)
theorem nodup_take_ne {α : Type} {l : List α} {f : α → Str} (nd : (l.map f).Nodup) {i : Nat} {x : α} (h : l[i]? = some x) : f x ∉ (l.take i).map f := fun hm => by
  obtain ⟨w, hw, ew⟩ := List.mem_map.mp hm
  obtain ⟨j, hj, ej⟩ := List.mem_iff_getElem.mp hw
  rw [List.length_take] at hj
  rw [List.getElem_take] at ej
  have h2 : (l.map f)[j]? = (l.map f)[i]? := by
    rw [List.getElem?_map, List.getElem?_map, h, List.getElem?_eq_getElem (by omega), ej]
    exact congrArg some ew
  have := (List.getElem?_inj (by rw [List.length_map]; omega) nd).mp h2
  omega
theorem mem_hs {m : Make} {h : Str} {hd : Hd} (e : handOf m h = some hd) : hd ∈ m.hs ∧ hd.nm = h := ⟨List.mem_of_find?_eq_some e, of_decide_eq_true (List.find?_some (p := fun r : Hd => decide (r.nm = h)) e)⟩
section
variable {P : Program} {w : World} {K : PySem.W.Frag} {mg : Str → Option Value} {base : Heap}
def spFirstStand : Sp := fun vs H Q _ => ∃ (mv : V) (h : Str) (m : Make) (hd : Hd), vs = [mv, .str h] ∧ Im H mv m.d ∧ MOk m ∧ handOf m h = some hd ∧
  ∀ (t d : Addr) (kvs : List (Key × V)) (r : EnvD) (H' : Hp), Same H H' → H t = none → H d = none → H' t = some (.tup [.int ((0 : Nat) : Int), .ref d]) → H' d = some (.dK kvs) → Bx H' kvs r → EnvOk m.ks hd.bx r → r.map (·.1) = hd.bx.map (·.1) → Q (.ref t) H'
theorem calPFirstStand (T : Txt K mg) : C8.Cal P w K mg base 9 "first_stand" spFirstStand [] := by
  have cPHandOf := calPHandOf (P := P) (w := w) (base := base) T
  have cPNought := calPNought (P := P) (w := w) (base := base) T 5
  refine mkCal (k := 8) T.fPFirstStand scPFirstStand T.glo_first_stand (fun _ _ _ _ _ _ us hl => match us, hl with | [_, _], _ => rfl) (fun vs H Q E h => ?_) (fun cdv A outer s H vs Q E hr h => ?_)
  · obtain ⟨mv, h, m, hd, rfl, _⟩ := h
    rfl
  obtain ⟨mv, h, m, hd, rfl, im, mok, hh, q⟩ := h
  have hu := hu_of hr
  obtain ⟨hm, hn⟩ := mem_hs hh
  have hok := mok.hd hd hm
  obtain ⟨ma, v1, v2, v3, rfl, hma, i1, i2, i3⟩ := id im.t3
  refine ⟨_, PSs.nox (pss_cons (ps_set (i := 2) scPFirstStand.nd rfl (Or.inl rfl) pe_dnewK)
      (pss_cons (ps_for PassesOwn.never rfl (pi_tup (pe_ix (ix_tupK (K := K) rfl) (C8.pe_c cPHandOf hr (by omega) rfl (pa_cons (pv 0) (pa_cons (pv 1) pa_nil))) pe_int (fun _ _ => rfl))) (pg_tupK (K := K) (n := 2) rfl rfl (pgs_cons (pg_name (i := 3) scPFirstStand.nd rfl (Or.inl rfl)) (pgs_cons (pg_name (i := 4) scPFirstStand.nd rfl (Or.inl rfl)) pgs_nil)))
        (pss_one (ps_dput hu (pv 2) (pv 3) (C8.pe_c cPNought hr (by omega) rfl (pa_cons (pe_ix (ix_tupK (K := K) rfl) (pv 0) pe_int (fun _ _ => rfl)) (pa_cons (pv 4) pa_nil))) rfl)))
      (pss_one (ps_ret (pe_tup (pa_cons pe_int (pa_cons (pv 2) pa_nil))))))), ?_⟩
  intro d nd
  have s0 : Same H (upd H d (.dK [])) := same_new nd _
  refine ⟨_, rfl, _, rfl, .ref ma, h, m, hd, rfl, im.mono (ts_same s0), hh, fun u iu => ?_⟩
  obtain ⟨ua, u1, u2, u3, rfl, hua, _, j2, _⟩ := iu.t3
  obtain ⟨ba, zs, rfl, hba, izs⟩ := j2.tupE
  have zl := izs.length
  rw [List.length_map] at zl
  have dba : ba ≠ d := fun z => by rw [z, upd_same] at hba; cases hba
  have hba0 : H ba = some (.tup zs) := by rw [upd_ne dba] at hba; exact hba
  have izs0 : Ims H zs (hd.bx.map partD) := by
    exact Ims.mono (H := upd H d (.dK [])) (fun a us ha => by
      by_cases c : a = d
      · rw [c, upd_same] at ha; cases ha
      · rw [upd_ne c] at ha; exact ha) izs
  refine ⟨_, _, _, _, rfl, rfl, SqT.of hua, at1, ba, rfl, ⟨_, SqT.of hba⟩, for_it (walk_tup (K := K) (a := ba) (xs := zs)) (fun i σ H' => ∃ kvs r c1 c2, σ = [some (.ref ma), some (.str h), some (.ref d), c1, c2] ∧ Same H H' ∧ H' d = some (.dK kvs) ∧ Bx H' kvs r ∧ EnvOk m.ks (hd.bx.take i) r ∧ r.map (·.1) = (hd.bx.take i).map (·.1))
    ⟨[], [], none, none, rfl, s0, upd_same, .nil, (fun p hp => by rw [List.take_zero] at hp; cases hp), rfl⟩ (fun i σ H' _ hP => by obtain ⟨_, _, _, _, _, s, _⟩ := hP; exact SqT.of (s _ _ hba0)) ?_ ?_⟩
  · rintro i y σ H1 H2 hi ⟨kvs, r, c1, c2, rfl, s1, hd1, bx, eo, nm⟩ ⟨rfl, hy⟩
    obtain ⟨e, he, ie⟩ := izs0.of hy
    rw [List.getElem?_map] at he
    obtain ⟨p, hp, rfl⟩ := Option.map_eq_some_iff.mp he
    obtain ⟨ta, w1, w2, rfl, hta, l1, l2⟩ := (ie.mono (ts_same s1)).t2
    cases l1.strE
    cases l2.strE
    have pm : p ∈ hd.bx := List.mem_of_getElem? hp
    have il : i < hd.bx.length := (List.getElem?_eq_some_iff.mp hp).1
    refine ⟨_, _, rfl, SqT.of hta, rfl, _, _, rfl, _, _, rfl, rfl, ?_⟩
    refine ⟨_, rfl, _, _, _, _, rfl, rfl, SqT.of (s1 _ _ hma), at0, _, rfl, v1, p.2, m.ks, 4, rfl, rfl, i1.mono (ts_same s1), mok.ks, (hok.bk p pm).mono mok.ks.len, fun u de H3 s3 iu vu => ?_⟩
    have s4 : Same H H3 := Same.tr s1 s3
    have bx3 := bx.mono (ts_same s3)
    have bl := hok.bl
    have kl : kvs.length = i := by
      have := congrArg List.length nm
      rw [List.length_map, List.length_map, List.length_take] at this
      rw [bx.length]
      omega
    refine ⟨_, rfl, _, rfl, d, _, rfl, DPut.k (k := Sum.inr p.1) (s3 _ _ hd1) (small1000 (by omega)), ?_⟩
    have fresh : p.1 ∉ r.map (·.1) := by rw [nm]; exact nodup_take_ne hok.bn hp
    have ts : TS H3 (upd H3 d (.dK (putK kvs (Sum.inr p.1) u))) := fun b us hb => by rw [upd_ne (fun z => by rw [z, s3 _ _ hd1] at hb; cases hb)]; exact hb
    have tk : hd.bx.take (i + 1) = hd.bx.take i ++ [p] := by rw [List.take_succ, hp]; rfl
    refine ⟨putK kvs (Sum.inr p.1) u, putA r p.1 de, _, _, rfl, same_upd s4 nd _, upd_same, (bx3.put iu).mono ts, ?_, ?_⟩
    · rw [tk]
      exact eo.put (fun z hz e => nodup_take_ne hok.bn hp (by rw [← e]; exact List.mem_map_of_mem (f := (·.1)) hz)) vu
    · rw [tk, putA_new fresh, List.map_append, List.map_append, nm]
      rfl
  · rintro σ H1 ⟨kvs, r, c1, c2, rfl, s1, hd1, bx, eo, nm⟩
    rw [List.take_of_length_le (by omega)] at eo nm
    refine ⟨_, rfl, sz, fun t nt => ?_⟩
    have s2 : Same H1 (upd H1 t (.tup [.int 0, .ref d])) := same_new nt _
    exact q t d kvs r _ (Same.tr s1 s2) (none_of s1 nt) nd upd_same (s2 _ _ hd1) (bx.mono (ts_same s2)) eo nm
end
end Sw
set_option Elab.async false
set_option linter.all false
set_option maxRecDepth 100000
set_option maxHeartbeats 4000000
/-! Lone.__init__. -/
namespace Sw
open PySem PySem.Spec PyProof.Rows L2
/-! ### the attributes as they come -/
section
variable {kv : V} {ra la hd cd gd nt : Addr} {i d : Int}
def fs1 (kv : V) : List (Str × V) := [("kinds", kv)]
def fs2 (kv : V) (ra : Addr) : List (Str × V) := [("kinds", kv), ("rows", .ref ra)]
def fs3 (kv : V) (ra la : Addr) : List (Str × V) := [("kinds", kv), ("rows", .ref ra), ("leads", .ref la)]
def fs4 (kv : V) (ra la : Addr) (i : Int) : List (Str × V) := [("kinds", kv), ("rows", .ref ra), ("leads", .ref la), ("at", .int i)]
def fs5 (kv : V) (ra la : Addr) (i : Int) (hd : Addr) : List (Str × V) := [("kinds", kv), ("rows", .ref ra), ("leads", .ref la), ("at", .int i), ("held", .ref hd)]
def fs6 (kv : V) (ra la : Addr) (i : Int) (hd cd : Addr) : List (Str × V) := [("kinds", kv), ("rows", .ref ra), ("leads", .ref la), ("at", .int i), ("held", .ref hd), ("coming", .ref cd)]
def fs7 (kv : V) (ra la : Addr) (i : Int) (hd cd gd : Addr) : List (Str × V) := [("kinds", kv), ("rows", .ref ra), ("leads", .ref la), ("at", .int i), ("held", .ref hd), ("coming", .ref cd), ("gone", .ref gd)]
def fs8 (kv : V) (ra la : Addr) (i : Int) (hd cd gd nt : Addr) : List (Str × V) := [("kinds", kv), ("rows", .ref ra), ("leads", .ref la), ("at", .int i), ("held", .ref hd), ("coming", .ref cd), ("gone", .ref gd), ("notes", .ref nt)]
theorem q1 : putF "kinds" kv [] = fs1 kv := rfl
theorem q2 : putF "rows" (.ref ra) (fs1 kv) = fs2 kv ra := by kernel_rfl
theorem q3 : putF "leads" (.ref la) (fs2 kv ra) = fs3 kv ra la := by kernel_rfl
theorem q4 : putF "at" (.int i) (fs3 kv ra la) = fs4 kv ra la i := by kernel_rfl
theorem q5 : putF "held" (.ref hd) (fs4 kv ra la i) = fs5 kv ra la i hd := by kernel_rfl
theorem q6 : putF "coming" (.ref cd) (fs5 kv ra la i hd) = fs6 kv ra la i hd cd := by kernel_rfl
theorem q7 : putF "gone" (.ref gd) (fs6 kv ra la i hd cd) = fs7 kv ra la i hd cd gd := by kernel_rfl
theorem q8 : putF "notes" (.ref nt) (fs7 kv ra la i hd cd gd) = fs8 kv ra la i hd cd gd nt := by kernel_rfl
theorem q9 {p dx : Addr} : putF "done" (.int d) (fs8 kv ra la i hd cd gd nt) = loneFs kv ⟨p, dx, ra, la, hd, cd, gd, nt⟩ i d := by kernel_rfl
theorem f2_rows : (fs2 kv ra).lookup ("rows" : Str) = some (V.ref ra) := by kernel_rfl
theorem f7_coming : (fs7 kv ra la i hd cd gd).lookup ("coming" : Str) = some (V.ref cd) := by kernel_rfl
theorem f7_gone : (fs7 kv ra la i hd cd gd).lookup ("gone" : Str) = some (V.ref gd) := by kernel_rfl
end
/-- the channels to a hand, from a hand -/
def chTo (cs : List Ch) (h : Str) : List Ch := cs.filter fun c => decide (c.to = h)
def chFr (cs : List Ch) (h : Str) : List Ch := cs.filter fun c => decide (c.fr = h)
/-- all its own places -/
def LAd.own (a : LAd) : List Addr := [a.la, a.hd, a.cd, a.gd, a.nt]
/-- letters handed in: for each channel to the hand a list, or none -/
def LetAt (H : Hp) (d : Addr) (cs : List Ch) (h : Str) (q : Qs) : Prop := ∃ kvs, H d = some (.dK kvs) ∧ ∀ c ∈ cs, c.to = h → (valV kvs (Sum.inr c.nm : Key) = none ∧ q c.nm = []) ∨ ∃ l xs, valV kvs (Sum.inr c.nm : Key) = some (.ref l) ∧ H l = some (.lst xs) ∧ Ims H xs (q c.nm)
def spLInit (K : PySem.W.Frag) : Sp := fun vs H Q _ => ∃ (x dx lv : Addr) (mv sv : V) (h : Str) (m : Make) (hd : Hd) (q : Qs) (Ps : Nat → EnvD → Prop), vs = [.ref x, mv, .str h, .ref lv, sv] ∧ H x = some (.ins (LC K) dx []) ∧ Im H mv m.d ∧ MOk m ∧ handOf m h = some hd ∧
  LetAt H lv m.cs h q ∧ ((sv = .non ∧ ∀ r, EnvOk m.ks hd.bx r → r.map (·.1) = hd.bx.map (·.1) → Ps 0 r) ∨ ∃ i r, StandAt H sv i r ∧ Ps i r) ∧
  ∀ (kv : V) (a : LAd) (ci co : List (Str × Addr)) (hs : HS) (H' : Hp), a.p = x → But [x] H H' → (∀ b ∈ a.own ++ (ci ++ co).map (·.2), H b = none) → LoneAt K H' kv a hd.rows ci co hs → KsAt H' kv m.ks → Ps hs.at_ hs.held → hs.notes = [] → hs.done = 0 →
    ci.map (·.1) = (chTo m.cs h).map (·.nm) → co.map (·.1) = (chFr m.cs h).map (·.nm) → Lines H' ci q → (∀ y ∈ co, H' y.2 = some (.lst [])) → ((ci ++ co).map (·.2)).Nodup → (∀ y ∈ ci ++ co, y.2 ≠ a.la ∧ y.2 ≠ a.nt) → a.la ≠ a.nt → a.hd ≠ a.cd → a.hd ≠ a.gd → a.gd ≠ a.cd → (∃ ma v2 v3, mv = .ref ma ∧ H ma = some (.tup [kv, v2, v3])) → Q .non H'
/-- the loop over the channels: coming is made for the first i, gone for the first j -/
def InitInv (H H8 H' : Hp) (x cd gd : Addr) (h : Str) (cs : List Ch) (q : Qs) (i j : Nat) : Prop := ∃ ci co, But [x] H H' ∧ (∀ b o, H8 b = some o → b ≠ cd → b ≠ gd → H' b = some o) ∧ H' cd = some (.dK (lnD ci)) ∧ H' gd = some (.dK (lnD co)) ∧
  ci.map (·.1) = (chTo (cs.take i) h).map (·.nm) ∧ co.map (·.1) = (chFr (cs.take j) h).map (·.nm) ∧ Lines H' ci q ∧ (∀ y ∈ co, H' y.2 = some (.lst [])) ∧ (∀ y ∈ ci ++ co, H8 y.2 = none) ∧ ((ci ++ co).map (·.2)).Nodup
theorem perm_mid {A : Type} {a b : List A} {x : A} : (a ++ [x] ++ b).Perm (a ++ b ++ [x]) := by
  rw [List.append_assoc, List.append_assoc]
  exact List.Perm.append_left a (by simpa using (List.perm_append_comm (l₁ := [x]) (l₂ := b)))
section
variable {P : Program} {w : World} {K : PySem.W.Frag} {mg : Str → Option Value} {base : Heap}
theorem chTo_snoc {cs : List Ch} {i : Nat} {c : Ch} {h : Str} (e : cs[i]? = some c) : chTo (cs.take (i + 1)) h = chTo (cs.take i) h ++ (if c.to = h then [c] else []) := by
  rw [List.take_succ, e, chTo, List.filter_append]
  by_cases z : c.to = h
  · rw [if_pos z]; simp [chTo, z]
  · rw [if_neg z]; simp [chTo, z]
theorem chFr_snoc {cs : List Ch} {i : Nat} {c : Ch} {h : Str} (e : cs[i]? = some c) : chFr (cs.take (i + 1)) h = chFr (cs.take i) h ++ (if c.fr = h then [c] else []) := by
  rw [List.take_succ, e, chFr, List.filter_append]
  by_cases z : c.fr = h
  · rw [if_pos z]; simp [chFr, z]
  · rw [if_neg z]; simp [chFr, z]
theorem fnLInit (T : Txt K mg) : ∃ fd, FnOk P w K mg base C8.CX0 10 (He.fAd K ("Lone", some "__init__")) fd pL_Init (spLInit K) ∧ FunD K "__init__" "Lone.__init__" (defArgs sL_Init) (defBody sL_Init) (defScope sL_Init) [.non] [] (He.fAd K ("Lone", some "__init__")) fd := by
  obtain ⟨fd, F⟩ := T.fL_Init
  refine ⟨fd, ?_, F⟩
  have cPFirstStand := calPFirstStand (P := P) (w := w) (base := base) T
  have cPHandOf := calPHandOf (P := P) (w := w) (base := base) T
  have cPWaysOf := calPWaysOf (P := P) (w := w) (base := base) T
  refine F.ok (k := 9) scL_Init (fun vs H Q E h => ?_) (fun cdv A outer s H vs Q E hr h => ?_)
  · obtain ⟨x, dx, lv, mv, sv, h, m, hd, q, Ps, rfl, _⟩ := h
    rfl
  obtain ⟨x, dx, lv, mv, sv, h, m, hd, q, Ps, rfl, ho, im, mok, hh, let_, hst, k⟩ := h
  have hu := hu_of hr
  have cls := T.cls_Lone
  obtain ⟨hm, hn⟩ := mem_hs hh
  have hok := mok.hd hd hm
  refine ⟨_, PSs.nox (C8.pss_cut (ps_if (pt_cmpR op_isN (pv 4) pe_non (nomark _)) (pss_one (ps_set (i := 4) scL_Init.nd rfl (Or.inl rfl) (C8.pe_c cPFirstStand hr (by omega) rfl (pa_cons (pv 1) (pa_cons (pv 2) pa_nil))))) pss_nil)
      (pss_cons (ps_fld (pv 0) (pe_ix (ix_tupK (K := K) rfl) (pv 1) pe_int (fun _ _ => rfl)) rfl)
      (pss_cons (ps_fld (pv 0) (pe_ix (ix_tupK (K := K) rfl) (C8.pe_c cPHandOf hr (by omega) rfl (pa_cons (pv 1) (pa_cons (pv 2) pa_nil))) pe_int (fun _ _ => rfl)) rfl)
      (pss_cons (ps_fld (pv 0) (C8.pe_c cPWaysOf hr (by omega) rfl (pa_cons (pe_fld (pv 0) rfl) pa_nil)) rfl)
      (pss_cons (ps_fld (pv 0) (pe_ix (ix_tupK (K := K) rfl) (pv 4) pe_int (fun _ _ => rfl)) rfl)
      (pss_cons (ps_fld (pv 0) (pe_callTy call_dictD (by rfl) T.free_dict (by decide +kernel) (pa_cons (pe_ix (ix_tupK (K := K) rfl) (pv 4) pe_int (fun _ _ => rfl)) pa_nil)) rfl)
      (pss_cons (ps_fld (pv 0) pe_dnewK rfl)
      (pss_cons (ps_fld (pv 0) pe_dnewK rfl)
      (pss_cons (ps_for PassesOwn.never rfl (pi_tup (pe_ix (ix_tupK (K := K) rfl) (pv 1) pe_int (fun _ _ => rfl))) (pg_tupK (K := K) (n := 4) rfl rfl (pgs_cons (pg_name (i := 5) scL_Init.nd rfl (Or.inl rfl)) (pgs_cons (pg_name (i := 6) scL_Init.nd rfl (Or.inl rfl)) (pgs_cons (pg_name (i := 7) scL_Init.nd rfl (Or.inl rfl)) (pgs_cons (pg_name (i := 8) scL_Init.nd rfl (Or.inl rfl)) pgs_nil)))))
        (C8.pss_cut (ps_if (pt_cmpR op_eq (pv 7) (pv 2) (nomark _)) (pss_one (ps_dput hu (pe_fld (pv 0) rfl) (pv 5) (pe_callTy call_list_of (by rfl) T.free_list (by decide +kernel) (pa_cons (pe_dget2 hu (pv 3) (pv 5) (pe_lst pa_nil) ⟨rfl, rfl, rfl, rfl⟩) pa_nil)) rfl)) pss_nil)
          (pss_one (ps_if (pt_cmpR op_eq (pv 6) (pv 2) (nomark _)) (pss_one (ps_dput hu (pe_fld (pv 0) rfl) (pv 5) (pe_lst pa_nil) rfl)) pss_nil))))
      (pss_cons (ps_fld (pv 0) (pe_lst pa_nil) rfl)
      (pss_one (ps_fld (pv 0) pe_int rfl)))))))))))), ?_⟩
  refine ⟨fun σ' H' => ∃ st i r, σ' = [some (.ref x), some mv, some (.str h), some (.ref lv), some st, none, none, none, none] ∧ Same H H' ∧ StandAt H' st i r ∧ Ps i r, ?_, ?_⟩
  · rcases hst with ⟨rfl, hP⟩ | ⟨i, r, hs, hP⟩
    · refine ⟨_, rfl, rfl, _, rfl, iteT ?_⟩
      exact ⟨_, rfl, _, rfl, mv, h, m, hd, rfl, im, mok, hh, fun t d kvs r H' s nt nd e1 e2 e3 e4 e5 => ⟨.ref t, 0, r, rfl, s, ⟨t, d, kvs, rfl, e1, e2, e3⟩, hP r e4 e5⟩⟩
    · obtain ⟨t, d, kvs, rfl, e1, e2, e3⟩ := hs
      refine ⟨_, rfl, rfl, _, rfl, iteF ?_⟩
      exact ⟨_, i, r, rfl, same_refl, ⟨t, d, kvs, rfl, e1, e2, e3⟩, hP⟩
  rintro σ0 H0 ⟨st, i, r, rfl, s0, ⟨t, d, kvs, rfl, ht, hd0, bx⟩, hP⟩
  have im0 := im.mono (ts_same s0)
  obtain ⟨ma, v1, v2, v3, rfl, hmaH, i1h, i2h, i3h⟩ := id im.t3
  have hma := s0 _ _ hmaH
  have i1 := i1h.mono (ts_same s0)
  have i2 := i2h.mono (ts_same s0)
  have o0 := s0 _ _ ho
  -- kinds
  refine ⟨_, rfl, _, _, _, _, rfl, rfl, SqT.of hma, at0, _, rfl, x, LC K, dx, [], rfl, o0, cls, T.no_Lone_kinds, (by decide), ?_⟩
  have b1 : But [x] H (upd H0 x (.ins (LC K) dx (putF "kinds" v1 []))) := (But.same s0).put (by simp) _
  have o1 : upd H0 x (.ins (LC K) dx (putF "kinds" v1 [])) x = some (.ins (LC K) dx (fs1 v1)) := upd_same
  have t1 : But [x] H0 (upd H0 x (.ins (LC K) dx (putF "kinds" v1 []))) := But.refl.put (by simp) _
  generalize upd H0 x (.ins (LC K) dx (putF "kinds" v1 [])) = H1 at b1 o1 t1
  have ntx : ∀ b ∈ [x], ∀ xs, H0 b ≠ some (.tup xs) := fun b hb xs e => by rw [List.mem_singleton] at hb; rw [hb, o0] at e; cases e
  have ts1 := t1.ts ntx
  -- rows
  refine ⟨_, rfl, _, rfl, _, h, m, hd, rfl, im0.mono ts1, hh, fun u iu => ?_⟩
  obtain ⟨ua, u1, u2, u3, rfl, hua, j1, j2, j3⟩ := iu.t3
  obtain ⟨ra, rxs, rfl, hra, irs⟩ := j3.tupE
  refine ⟨_, _, _, _, rfl, rfl, SqT.of hua, at2, _, rfl, x, LC K, dx, _, rfl, o1, cls, T.no_Lone_rows, (by show 1 < 1000; decide), ?_⟩
  rw [q2]
  have b2 : But [x] H (upd H1 x (.ins (LC K) dx (fs2 v1 ra))) := b1.put (by simp) _
  have o2 : upd H1 x (.ins (LC K) dx (fs2 v1 ra)) x = some (.ins (LC K) dx (fs2 v1 ra)) := upd_same
  have t2 : But [x] H0 (upd H1 x (.ins (LC K) dx (fs2 v1 ra))) := t1.put (by simp) _
  have r2 : Im (upd H1 x (.ins (LC K) dx (fs2 v1 ra))) (.ref ra) (.tuple hd.rows) := j3.mono fun b us hb => by rw [upd_ne (fun z => by rw [z, o1] at hb; cases hb)]; exact hb
  generalize upd H1 x (.ins (LC K) dx (fs2 v1 ra)) = H2 at b2 o2 t2 r2
  -- leads
  refine ⟨_, rfl, x, LC K, dx, _, _, rfl, o2, cls, T.no_Lone_rows, f2_rows, .ref ra, hd.rows, rfl, r2, fun r hr => ?_, by have := hok.rows.2.1; omega, fun la lls H3 s3 nla hla ila => ?_⟩
  · obtain ⟨k, hk, ek⟩ := List.mem_iff_getElem.mp hr
    exact (hok.rows.2.2 k r (by rw [List.getElem?_eq_getElem hk, ek])).sh
  refine ⟨_, rfl, x, LC K, dx, _, rfl, s3 _ _ o2, cls, T.no_Lone_leads, (by show 2 < 1000; decide), ?_⟩
  rw [q3]
  have nlx : la ≠ x := fun z => by rw [z, o2] at nla; cases nla
  have b3 : But [x] H (upd H3 x (.ins (LC K) dx (fs3 v1 ra la))) := (b2.trans (.same s3)).put (by simp) _
  have o3 : upd H3 x (.ins (LC K) dx (fs3 v1 ra la)) x = some (.ins (LC K) dx (fs3 v1 ra la)) := upd_same
  have t3 : But [x] H0 (upd H3 x (.ins (LC K) dx (fs3 v1 ra la))) := (t2.trans (.same s3)).put (by simp) _
  have c3 : TS H3 (upd H3 x (.ins (LC K) dx (fs3 v1 ra la))) := fun b us hb => by rw [upd_ne (fun z => by rw [z, s3 _ _ o2] at hb; cases hb)]; exact hb
  have l3 : upd H3 x (.ins (LC K) dx (fs3 v1 ra la)) la = some (.lst lls) := by rw [upd_ne nlx]; exact hla
  have il3 := ila.mono c3
  have r3 := (r2.mono (ts_same s3)).mono c3
  have fla : H la = none := by
    cases e : H la with
    | none => rfl
    | some o => rw [b2 _ _ e (by simpa using nlx)] at nla; cases nla
  generalize upd H3 x (.ins (LC K) dx (fs3 v1 ra la)) = H4 at b3 o3 t3 l3 il3 r3
  have ne_x : ∀ {b : Addr} {o : HO}, H0 b = some o → (∀ C dx fs, o ≠ .ins C dx fs) → b ∉ [x] := fun {b o} e n hb => by
    rw [List.mem_singleton] at hb
    rw [hb, o0] at e
    cases e
    exact n _ _ _ rfl
  have tx := ne_x ht (fun _ _ _ z => by cases z)
  have dxn := ne_x hd0 (fun _ _ _ z => by cases z)
  -- at
  refine ⟨_, rfl, _, _, _, _, rfl, rfl, SqT.of (t3 _ _ ht tx), at0, _, rfl, x, LC K, dx, _, rfl, o3, cls, T.no_Lone_at, (by show 3 < 1000; decide), ?_⟩
  rw [q4]
  have b4 : But [x] H (upd H4 x (.ins (LC K) dx (fs4 v1 ra la i))) := b3.put (by simp) _
  have o4 : upd H4 x (.ins (LC K) dx (fs4 v1 ra la i)) x = some (.ins (LC K) dx (fs4 v1 ra la i)) := upd_same
  have t4 : But [x] H0 (upd H4 x (.ins (LC K) dx (fs4 v1 ra la i))) := t3.put (by simp) _
  have l4 : upd H4 x (.ins (LC K) dx (fs4 v1 ra la i)) la = some (.lst lls) := by rw [upd_ne nlx]; exact l3
  have il4 : Ims (upd H4 x (.ins (LC K) dx (fs4 v1 ra la i))) lls (leads hd.rows) := il3.mono fun b us hb => by rw [upd_ne (fun z => by rw [z, o3] at hb; cases hb)]; exact hb
  have r4 : Im (upd H4 x (.ins (LC K) dx (fs4 v1 ra la i))) (.ref ra) (.tuple hd.rows) := r3.mono fun b us hb => by rw [upd_ne (fun z => by rw [z, o3] at hb; cases hb)]; exact hb
  generalize upd H4 x (.ins (LC K) dx (fs4 v1 ra la i)) = H5 at b4 o4 t4 l4 il4 r4
  -- held
  refine ⟨_, rfl, _, _, _, _, rfl, rfl, SqT.of (t4 _ _ ht tx), at1, d, kvs, rfl, .inl (t4 _ _ hd0 dxn), fun hp nhp => ?_⟩
  have s5 : Same H5 (upd H5 hp (.dK kvs)) := same_new nhp _
  have hpx : hp ≠ x := fun z => by rw [z, o4] at nhp; cases nhp
  have hpla : hp ≠ la := fun z => by rw [z, l4] at nhp; cases nhp
  have fresh_of : ∀ {H' : Hp}, But [x] H H' → ∀ {b : Addr}, H' b = none → b ≠ x → H b = none := fun {H'} bt {b} n nx => by
    cases e : H b with
    | none => rfl
    | some o => rw [bt _ _ e (by simpa using nx)] at n; cases n
  have fhp := fresh_of b4 nhp hpx
  refine ⟨_, rfl, x, LC K, dx, _, rfl, s5 _ _ o4, cls, T.no_Lone_held, (by show 4 < 1000; decide), ?_⟩
  rw [q5]
  have b5 : But [x] H (upd (upd H5 hp (.dK kvs)) x (.ins (LC K) dx (fs5 v1 ra la i hp))) := (b4.trans (.same s5)).put (by simp) _
  have o5 : upd (upd H5 hp (.dK kvs)) x (.ins (LC K) dx (fs5 v1 ra la i hp)) x = some (.ins (LC K) dx (fs5 v1 ra la i hp)) := upd_same
  have t5 : But [x] H0 (upd (upd H5 hp (.dK kvs)) x (.ins (LC K) dx (fs5 v1 ra la i hp))) := (t4.trans (.same s5)).put (by simp) _
  have l5 : upd (upd H5 hp (.dK kvs)) x (.ins (LC K) dx (fs5 v1 ra la i hp)) la = some (.lst lls) := by rw [upd_ne nlx]; exact s5 _ _ l4
  have c5 : TS H5 (upd (upd H5 hp (.dK kvs)) x (.ins (LC K) dx (fs5 v1 ra la i hp))) := fun b us hb => by rw [upd_ne (fun z => by rw [z, o4] at hb; cases hb)]; exact s5 _ _ hb
  have il5 := il4.mono c5
  have r5 := r4.mono c5
  have p5 : upd (upd H5 hp (.dK kvs)) x (.ins (LC K) dx (fs5 v1 ra la i hp)) hp = some (.dK kvs) := by rw [upd_ne hpx]; exact upd_same
  generalize upd (upd H5 hp (.dK kvs)) x (.ins (LC K) dx (fs5 v1 ra la i hp)) = H6 at b5 o5 t5 l5 il5 p5 r5
  have bx5 : Bx H6 kvs r := bx.mono (t5.ts ntx)
  -- coming
  intro cd ncd
  have cdx : cd ≠ x := fun z => by rw [z, o5] at ncd; cases ncd
  have s6 : Same H6 (upd H6 cd (.dK [])) := same_new ncd _
  have fcd := fresh_of b5 ncd cdx
  have hpcd : hp ≠ cd := ne_of_none p5 ncd
  refine ⟨_, rfl, x, LC K, dx, _, rfl, s6 _ _ o5, cls, T.no_Lone_coming, (by show 5 < 1000; decide), ?_⟩
  rw [q6]
  have b6 : But [x] H (upd (upd H6 cd (.dK [])) x (.ins (LC K) dx (fs6 v1 ra la i hp cd))) := (b5.trans (.same s6)).put (by simp) _
  have o6 : upd (upd H6 cd (.dK [])) x (.ins (LC K) dx (fs6 v1 ra la i hp cd)) x = some (.ins (LC K) dx (fs6 v1 ra la i hp cd)) := upd_same
  have k6 : ∀ b o, H6 b = some o → b ≠ x → upd (upd H6 cd (.dK [])) x (.ins (LC K) dx (fs6 v1 ra la i hp cd)) b = some o := fun b o e n => by rw [upd_ne n]; exact s6 _ _ e
  have p6 : upd (upd H6 cd (.dK [])) x (.ins (LC K) dx (fs6 v1 ra la i hp cd)) cd = some (.dK []) := by rw [upd_ne cdx]; exact upd_same
  generalize upd (upd H6 cd (.dK [])) x (.ins (LC K) dx (fs6 v1 ra la i hp cd)) = H7 at b6 o6 k6 p6
  -- gone
  intro gd ngd
  have gdx : gd ≠ x := fun z => by rw [z, o6] at ngd; cases ngd
  have s7 : Same H7 (upd H7 gd (.dK [])) := same_new ngd _
  have fgd := fresh_of b6 ngd gdx
  have hpgd : hp ≠ gd := ne_of_none (k6 _ _ p5 hpx) ngd
  have cdgd : cd ≠ gd := ne_of_none p6 ngd
  refine ⟨_, rfl, x, LC K, dx, _, rfl, s7 _ _ o6, cls, T.no_Lone_gone, (by show 6 < 1000; decide), ?_⟩
  rw [q7]
  have b7 : But [x] H (upd (upd H7 gd (.dK [])) x (.ins (LC K) dx (fs7 v1 ra la i hp cd gd))) := (b6.trans (.same s7)).put (by simp) _
  have o7 : upd (upd H7 gd (.dK [])) x (.ins (LC K) dx (fs7 v1 ra la i hp cd gd)) x = some (.ins (LC K) dx (fs7 v1 ra la i hp cd gd)) := upd_same
  have k7 : ∀ b o, H7 b = some o → b ≠ x → upd (upd H7 gd (.dK [])) x (.ins (LC K) dx (fs7 v1 ra la i hp cd gd)) b = some o := fun b o e n => by rw [upd_ne n]; exact s7 _ _ e
  have p7 : upd (upd H7 gd (.dK [])) x (.ins (LC K) dx (fs7 v1 ra la i hp cd gd)) gd = some (.dK []) := by rw [upd_ne gdx]; exact upd_same
  have kk : ∀ b o, H6 b = some o → b ≠ x → upd (upd H7 gd (.dK [])) x (.ins (LC K) dx (fs7 v1 ra la i hp cd gd)) b = some o := fun b o e n => k7 b o (k6 b o e n) n
  have cd7 := k7 _ _ p6 cdx
  have hp7 := kk _ _ p5 hpx
  have la7 := kk _ _ l5 nlx
  have ts7 : TS H6 (upd (upd H7 gd (.dK [])) x (.ins (LC K) dx (fs7 v1 ra la i hp cd gd))) := fun b us hb => kk _ _ hb (fun z => by rw [z, o5] at hb; cases hb)
  have il7 := il5.mono ts7
  have r7 := r5.mono ts7
  have bx7 := bx5.mono ts7
  have T7 : TS H0 (upd (upd H7 gd (.dK [])) x (.ins (LC K) dx (fs7 v1 ra la i hp cd gd))) := TS.trans (t5.ts ntx) ts7
  generalize upd (upd H7 gd (.dK [])) x (.ins (LC K) dx (fs7 v1 ra la i hp cd gd)) = H8 at b7 o7 p7 cd7 hp7 la7 il7 bx7 T7 r7
  have hma8 := T7 _ _ hma
  obtain ⟨ca, zs, rfl, hca, izs⟩ := (i2.mono T7).tupE
  have zl := izs.length
  rw [List.length_map] at zl
  obtain ⟨lkvs, hlv, hlet⟩ := let_
  have lvx : lv ≠ x := fun z => by rw [z, ho] at hlv; cases hlv
  have H8x : ∀ {b : Addr}, H8 b = none → H b = none := fun {b} n => fresh_of b7 n (fun z => by rw [z, o7] at n; cases n)
  have lines_put : ∀ {H' : Hp} {ci : List (Str × Addr)} {b : Addr} {kv1 kv2 : List (Key × V)}, Lines H' ci q → H' b = some (.dK kv1) → Lines (upd H' b (.dK kv2)) ci q := fun {H' ci b kv1 kv2} L e => L.off e (fun _ z => by cases z) (fun _ z => by cases z)
  have ndTo : ∀ j c, m.cs[j]? = some c → ∀ y ∈ (chTo (m.cs.take j) h).map (·.nm), y ≠ c.nm := fun j c e y hy z => nodup_take_ne (f := (·.nm)) mok.cn e (by
    rw [← z]
    obtain ⟨c2, h2, e2⟩ := List.mem_map.mp hy
    rw [← e2]
    exact List.mem_map_of_mem (f := (·.nm)) (List.mem_filter.mp h2).1)
  have ndFr : ∀ j c, m.cs[j]? = some c → ∀ y ∈ (chFr (m.cs.take j) h).map (·.nm), y ≠ c.nm := fun j c e y hy z => nodup_take_ne (f := (·.nm)) mok.cn e (by
    rw [← z]
    obtain ⟨c2, h2, e2⟩ := List.mem_map.mp hy
    rw [← e2]
    exact List.mem_map_of_mem (f := (·.nm)) (List.mem_filter.mp h2).1)
  have lenTo : ∀ j, (chTo (m.cs.take j) h).length ≤ 100 := fun j => by
    have h1 : (chTo (m.cs.take j) h).length ≤ (m.cs.take j).length := List.length_filter_le _ _
    rw [List.length_take] at h1
    have := mok.cl
    omega
  have lenFr : ∀ j, (chFr (m.cs.take j) h).length ≤ 100 := fun j => by
    have h1 : (chFr (m.cs.take j) h).length ≤ (m.cs.take j).length := List.length_filter_le _ _
    rw [List.length_take] at h1
    have := mok.cl
    omega
  have lnl : ∀ {l : List (Str × Addr)} {cs : List Ch}, l.map (·.1) = cs.map (·.nm) → cs.length ≤ 100 → (lnD l).length < sizeLine := fun {l cs} e hc => small1000 (by
    have := congrArg List.length e
    rw [List.length_map, List.length_map] at this
    rw [lnD, List.length_map]
    omega)
  refine ⟨_, rfl, _, _, _, _, rfl, rfl, SqT.of hma8, at1, ca, rfl, ⟨_, SqT.of hca⟩, for_it (walk_tup (K := K) (a := ca) (xs := zs)) (fun i σ H' => (∃ c1 c2 c3 c4, σ = [some (.ref x), some (.ref ma), some (.str h), some (.ref lv), some (.ref t), c1, c2, c3, c4]) ∧ InitInv H H8 H' x cd gd h m.cs q i i)
    ⟨⟨_, _, _, _, rfl⟩, [], [], b7, fun b o e _ _ => e, cd7, p7, rfl, rfl, fun y hy => absurd hy List.not_mem_nil, fun y hy => absurd hy List.not_mem_nil, fun y hy => absurd hy List.not_mem_nil, List.nodup_nil⟩
    (fun i σ H' _ hP => by obtain ⟨_, _, _, _, kp, _⟩ := hP; exact SqT.of (kp _ _ hca (fun z => by rw [z, cd7] at hca; cases hca) (fun z => by rw [z, p7] at hca; cases hca))) ?_ ?_⟩
  · rintro j y σ H1 H2 hj ⟨⟨c1, c2, c3, c4, rfl⟩, ci, co, bt, kp, hcd, hgd, nci, nco, lci, lco, fr, nod⟩ ⟨rfl, hy⟩
    have tsk : TS H8 H2 := fun b us e => kp _ _ e (fun z => by rw [z, cd7] at e; cases e) (fun z => by rw [z, p7] at e; cases e)
    obtain ⟨e, he, ie⟩ := izs.of hy
    rw [List.getElem?_map] at he
    obtain ⟨c, hc, rfl⟩ := Option.map_eq_some_iff.mp he
    have cm : c ∈ m.cs := List.mem_of_getElem? hc
    obtain ⟨ta, w1, w2, w3, w4, rfl, hta, g1, g2, g3, g4⟩ := (ie.mono tsk).t4
    cases g1.strE
    cases g2.strE
    cases g3.strE
    cases g4.strE
    have o2 := kp _ _ o7 (Ne.symm cdx) (Ne.symm gdx)
    have hlv2 := bt _ _ hlv (by simpa using lvx)
    refine ⟨_, _, rfl, SqT.of hta, rfl, _, _, rfl, _, _, rfl, _, _, rfl, _, _, rfl, rfl, ?_⟩
    refine ⟨fun σ' H' => σ' = [some (.ref x), some (.ref ma), some (.str h), some (.ref lv), some (.ref t), some (.str c.nm), some (.str c.fr), some (.str c.to), some (.str c.kd)] ∧ InitInv H H8 H' x cd gd h m.cs q (j + 1) j, ?_, ?_⟩
    · refine ⟨_, rfl, _, rfl, rfl, _, rfl, ite2 (fun d => ?_) (fun d => ?_)⟩
      · have et : c.to = h := V.str.inj (of_decide_eq_true d)
        -- the end: a new list with the letters
        have fin : ∀ (H3 : Hp) (nl : Addr) (xs : List V), Same H2 H3 → H3 nl = none → Ims H3 xs (q c.nm) → upd (upd H3 nl (.lst xs)) cd (.dK (putK (lnD ci) (Sum.inr c.nm : Key) (.ref nl))) = upd (upd H3 nl (.lst xs)) cd (.dK (lnD (ci ++ [(c.nm, nl)]))) ∧
            InitInv H H8 (upd (upd H3 nl (.lst xs)) cd (.dK (lnD (ci ++ [(c.nm, nl)])))) x cd gd h m.cs q (j + 1) j := by
          intro H3 nl xs s3 nnl ix
          have e1 : putK (lnD ci) (Sum.inr c.nm : Key) (.ref nl) = lnD (ci ++ [(c.nm, nl)]) := by
            rw [putK_new _ (lnD_none fun z hz => ndTo j c hc z.1 (by rw [← nci]; exact List.mem_map_of_mem (f := (·.1)) hz)), lnD, lnD, List.map_append]
            rfl
          refine ⟨by rw [e1], ?_⟩
          have s4 : Same H2 (upd H3 nl (.lst xs)) := Same.tr s3 (same_new nnl _)
          have nl8 : H8 nl = none := by
            cases e : H8 nl with
            | none => rfl
            | some o =>
              by_cases z : nl = cd
              · rw [z, s3 _ _ hcd] at nnl; cases nnl
              · by_cases z2 : nl = gd
                · rw [z2, s3 _ _ hgd] at nnl; cases nnl
                · rw [s3 _ _ (kp _ _ e z z2)] at nnl; cases nnl
          have nlcd : nl ≠ cd := fun z => by rw [z, cd7] at nl8; cases nl8
          have ncd2 : ∀ y ∈ ci ++ co, y.2 ≠ cd := fun y hy z => by have := fr y hy; rw [z, cd7] at this; cases this
          have gdcd : gd ≠ cd := Ne.symm cdgd
          have ts4 : TS H3 (upd (upd H3 nl (.lst xs)) cd (.dK (lnD (ci ++ [(c.nm, nl)])))) := fun b us e => by
            rw [upd_ne (fun z => by rw [z, s3 _ _ hcd] at e; cases e)]
            exact same_new nnl _ _ _ e
          refine ⟨ci ++ [(c.nm, nl)], co, fun b o e n => ?_, fun b o e n1 n2 => ?_, upd_same, ?_, ?_, nco, ?_, fun y hy => ?_, fun y hy => ?_, ?_⟩
          · rw [upd_ne (fun z => by rw [z, fcd] at e; cases e)]
            exact s4 _ _ (bt b o e n)
          · rw [upd_ne n1]
            exact s4 _ _ (kp b o e n1 n2)
          · rw [upd_ne gdcd]
            exact s4 _ _ hgd
          · rw [chTo_snoc hc, if_pos et, List.map_append, List.map_append, nci]
            rfl
          · intro y hy
            rcases List.mem_append.mp hy with hy | hy
            · exact (lines_put (lci.same s4) (s4 _ _ hcd)) y hy
            · rw [List.mem_singleton] at hy
              subst hy
              exact ⟨xs, by rw [upd_ne nlcd]; exact upd_same, ix.mono ts4⟩
          · rw [upd_ne (ncd2 y (List.mem_append_right _ hy))]
            exact s4 _ _ (lco y hy)
          · rcases List.mem_append.mp hy with hy | hy
            · rcases List.mem_append.mp hy with hy | hy
              · exact fr y (List.mem_append_left _ hy)
              · rw [List.mem_singleton] at hy
                subst hy
                exact nl8
            · exact fr y (List.mem_append_right _ hy)
          · have pm := (perm_mid (a := ci) (b := co) (x := (c.nm, nl))).map (·.2)
            refine pm.nodup_iff.mpr ?_
            rw [List.map_append]
            refine List.nodup_append.mpr ⟨nod, by simp, fun z1 h1 z2 h2 e => ?_⟩
            rw [List.map_singleton, List.mem_singleton] at h2
            obtain ⟨y, hy, ey⟩ := List.mem_map.mp h1
            have e3 : y.2 = nl := by rw [ey, e, h2]
            rcases List.mem_append.mp hy with hy | hy
            · obtain ⟨us, h3, _⟩ := lci y hy
              rw [e3] at h3
              rw [s3 _ _ h3] at nnl
              cases nnl
            · have h3 := lco y hy
              rw [e3] at h3
              rw [s3 _ _ h3] at nnl
              cases nnl
        rcases hlet c cm et with ⟨hv, hq⟩ | ⟨l, xs, hv, hl, ixs⟩
        · refine ⟨_, rfl, lv, rfl, .inl ⟨_, .inl hlv2⟩, _, rfl, sz, fun p np => ?_⟩
          have s3 : Same H2 (upd H2 p (.lst [])) := same_new np _
          refine ⟨none, hv ▸ DGet.k (k := Sum.inr c.nm) (s3 _ _ hlv2), p, [], rfl, .inl (SqL.of upd_same), fun nl nnl => ?_⟩
          obtain ⟨e1, f2⟩ := fin _ nl [] s3 nnl (by rw [hq]; exact .nil)
          refine ⟨_, rfl, x, LC K, dx, _, _, rfl, same_new nnl _ _ _ (s3 _ _ o2), cls, T.no_Lone_coming, f7_coming, _, rfl, cd, _, rfl, DPut.k (k := Sum.inr c.nm) (same_new nnl _ _ _ (s3 _ _ hcd)) (lnl nci (lenTo j)), ?_⟩
          rw [e1]
          exact ⟨rfl, f2⟩
        · have hl2 : H2 l = some (.lst xs) := bt _ _ hl (by
            rw [List.mem_singleton]
            intro z
            rw [z, ho] at hl
            cases hl)
          refine ⟨_, rfl, lv, rfl, .inl ⟨_, .inl hlv2⟩, _, rfl, sz, fun p np => ?_⟩
          have s3 : Same H2 (upd H2 p (.lst [])) := same_new np _
          refine ⟨some (.ref l), hv ▸ DGet.k (k := Sum.inr c.nm) (s3 _ _ hlv2), l, xs, rfl, .inl (SqL.of (s3 _ _ hl2)), fun nl nnl => ?_⟩
          obtain ⟨e1, f2⟩ := fin _ nl xs s3 nnl (ixs.mono fun b us e => s3 _ _ (bt _ _ e (by
            rw [List.mem_singleton]
            intro z
            rw [z, ho] at e
            cases e)))
          refine ⟨_, rfl, x, LC K, dx, _, _, rfl, same_new nnl _ _ _ (s3 _ _ o2), cls, T.no_Lone_coming, f7_coming, _, rfl, cd, _, rfl, DPut.k (k := Sum.inr c.nm) (same_new nnl _ _ _ (s3 _ _ hcd)) (lnl nci (lenTo j)), ?_⟩
          rw [e1]
          exact ⟨rfl, f2⟩
      · have et : ¬ c.to = h := fun z => d (decide_eq_true (by rw [z]))
        refine ⟨rfl, ci, co, bt, kp, hcd, hgd, ?_, nco, lci, lco, fr, nod⟩
        rw [chTo_snoc hc, if_neg et, List.append_nil]
        exact nci
    · rintro σ3 H3 ⟨rfl, ci3, co3, bt3, kp3, hcd3, hgd3, nci3, nco3, lci3, lco3, fr3, nod3⟩
      have o3 := kp3 _ _ o7 (Ne.symm cdx) (Ne.symm gdx)
      refine ⟨_, rfl, _, rfl, rfl, _, rfl, ite2 (fun d => ?_) (fun d => ?_)⟩
      · have et : c.fr = h := V.str.inj (of_decide_eq_true d)
        refine ⟨sz, fun nl nnl => ?_⟩
        have s4 : Same H3 (upd H3 nl (.lst [])) := same_new nnl _
        refine ⟨_, rfl, x, LC K, dx, _, _, rfl, s4 _ _ o3, cls, T.no_Lone_gone, f7_gone, _, rfl, gd, _, rfl, DPut.k (k := Sum.inr c.nm) (s4 _ _ hgd3) (lnl nco3 (lenFr j)), ?_⟩
        have e1 : putK (lnD co3) (Sum.inr c.nm : Key) (.ref nl) = lnD (co3 ++ [(c.nm, nl)]) := by
          rw [putK_new _ (lnD_none fun z hz => ndFr j c hc z.1 (by rw [← nco3]; exact List.mem_map_of_mem (f := (·.1)) hz)), lnD, lnD, List.map_append]
          rfl
        rw [e1]
        have nl8 : H8 nl = none := by
          cases e : H8 nl with
          | none => rfl
          | some o =>
            by_cases z : nl = cd
            · rw [z, hcd3] at nnl; cases nnl
            · by_cases z2 : nl = gd
              · rw [z2, hgd3] at nnl; cases nnl
              · rw [kp3 _ _ e z z2] at nnl; cases nnl
        have nlgd : nl ≠ gd := fun z => by rw [z, p7] at nl8; cases nl8
        have ngd2 : ∀ y ∈ ci3 ++ co3, y.2 ≠ gd := fun y hy z => by have := fr3 y hy; rw [z, p7] at this; cases this
        refine ⟨⟨_, _, _, _, rfl⟩, ci3, co3 ++ [(c.nm, nl)], fun b o e n => ?_, fun b o e n1 n2 => ?_, ?_, upd_same, nci3, ?_, ?_, fun y hy => ?_, fun y hy => ?_, ?_⟩
        · rw [upd_ne (fun z => by rw [z, fgd] at e; cases e)]
          exact s4 _ _ (bt3 b o e n)
        · rw [upd_ne n2]
          exact s4 _ _ (kp3 b o e n1 n2)
        · rw [upd_ne cdgd]
          exact s4 _ _ hcd3
        · rw [chFr_snoc hc, if_pos et, List.map_append, List.map_append, nco3]
          rfl
        · exact lines_put (lci3.same s4) (s4 _ _ hgd3)
        · rcases List.mem_append.mp hy with hy | hy
          · rw [upd_ne (ngd2 y (List.mem_append_right _ hy))]
            exact s4 _ _ (lco3 y hy)
          · rw [List.mem_singleton] at hy
            subst hy
            rw [upd_ne nlgd]
            exact upd_same
        · rcases List.mem_append.mp hy with hy | hy
          · exact fr3 y (List.mem_append_left _ hy)
          · rcases List.mem_append.mp hy with hy | hy
            · exact fr3 y (List.mem_append_right _ hy)
            · rw [List.mem_singleton] at hy
              subst hy
              exact nl8
        · rw [← List.append_assoc, List.map_append]
          refine List.nodup_append.mpr ⟨nod3, by simp, fun z1 h1 z2 h2 e => ?_⟩
          rw [List.map_singleton, List.mem_singleton] at h2
          obtain ⟨y, hy, ey⟩ := List.mem_map.mp h1
          have e3 : y.2 = nl := by rw [ey, e, h2]
          rcases List.mem_append.mp hy with hy | hy
          · obtain ⟨us, h3, _⟩ := lci3 y hy
            rw [e3, nnl] at h3
            cases h3
          · have h3 := lco3 y hy
            rw [e3, nnl] at h3
            cases h3
      · have et : ¬ c.fr = h := fun z => d (decide_eq_true (by rw [z]))
        refine ⟨⟨_, _, _, _, rfl⟩, ci3, co3, bt3, kp3, hcd3, hgd3, nci3, ?_, lci3, lco3, fr3, nod3⟩
        rw [chFr_snoc hc, if_neg et, List.append_nil]
        exact nco3
  · rintro σ H1 ⟨⟨c1, c2, c3, c4, rfl⟩, ci, co, bt, kp, hcd, hgd, nci, nco, lci, lco, fr, nod⟩
    rw [List.take_of_length_le (by omega)] at nci nco
    refine ⟨sz, fun nt nnt => ?_⟩
    have o1 := kp _ _ o7 (Ne.symm cdx) (Ne.symm gdx)
    have s2 : Same H1 (upd H1 nt (.lst [])) := same_new nnt _
    have ntx : nt ≠ x := fun z => by rw [z, o1] at nnt; cases nnt
    refine ⟨_, rfl, x, LC K, dx, _, rfl, s2 _ _ o1, cls, T.no_Lone_notes, (by show 7 < 1000; decide), ?_⟩
    rw [q8]
    refine ⟨_, rfl, x, LC K, dx, _, rfl, upd_same, cls, T.no_Lone_done, (by show 8 < 1000; decide), ?_⟩
    rw [upd_upd, q9 (p := x) (dx := dx)]
    have lacd : la ≠ cd := fun z => by rw [z, cd7] at la7; cases la7
    have lagd : la ≠ gd := fun z => by rw [z, p7] at la7; cases la7
    have la1 := kp _ _ la7 lacd lagd
    have hp1 := kp _ _ hp7 hpcd hpgd
    have lant : la ≠ nt := fun z => by rw [z, nnt] at la1; cases la1
    have up : ∀ b o, H1 b = some o → b ≠ x → upd (upd H1 nt (.lst [])) x (.ins (LC K) dx (loneFs v1 ⟨x, dx, ra, la, hp, cd, gd, nt⟩ (i : Int) 0)) b = some o := fun b o e n => by rw [upd_ne n]; exact s2 _ _ e
    have ts1 : TS H1 (upd (upd H1 nt (.lst [])) x (.ins (LC K) dx (loneFs v1 ⟨x, dx, ra, la, hp, cd, gd, nt⟩ (i : Int) 0))) := fun b us e => up _ _ e (fun z => by rw [z, o1] at e; cases e)
    have ts8 : TS H8 H1 := fun b us e => kp _ _ e (fun z => by rw [z, cd7] at e; cases e) (fun z => by rw [z, p7] at e; cases e)
    have tsx := TS.trans ts8 ts1
    have fnt : H nt = none := by
      cases e : H nt with
      | none => rfl
      | some o => rw [bt _ _ e (by simpa using ntx)] at nnt; cases nnt
    refine k v1 ⟨x, dx, ra, la, hp, cd, gd, nt⟩ ci co ⟨i, r, [], 0⟩ _ rfl ((bt.trans (.same s2)).put (by simp) _) (fun b hb => ?_) ⟨upd_same, ?_, ⟨lls, up _ _ la1 nlx, il7.mono tsx⟩, ⟨kvs, up _ _ hp1 hpx, bx7.mono tsx⟩, up _ _ hcd cdx, up _ _ hgd gdx, ?_⟩ (i1.mono (TS.trans T7 tsx)) hP rfl rfl nci nco
      (lci.keep ts1 fun y hy o e => up _ _ e (fun z => by have := fr y (List.mem_append_left _ hy); rw [z, o7] at this; cases this)) (fun y hy => up _ _ (lco y hy) (fun z => by have := fr y (List.mem_append_right _ hy); rw [z, o7] at this; cases this)) nod (fun y hy => ⟨fun z => ?_, fun z => ?_⟩) lant hpcd hpgd (Ne.symm cdgd) ⟨ma, _, _, rfl, hmaH⟩
    · rcases List.mem_append.mp hb with hb | hb
      · simp only [LAd.own, List.mem_cons, List.not_mem_nil, or_false] at hb
        rcases hb with rfl | rfl | rfl | rfl | rfl
        · exact fla
        · exact fhp
        · exact fcd
        · exact fgd
        · exact fnt
      · obtain ⟨y, hy, rfl⟩ := List.mem_map.mp hb
        exact H8x (fr y hy)
    · exact r7.mono tsx
    · rw [upd_ne ntx]
      exact upd_same
    · have := fr y hy
      rw [z, la7] at this
      cases this
    · rcases List.mem_append.mp hy with hy | hy
      · obtain ⟨us, h3, _⟩ := lci y hy
        rw [z, nnt] at h3
        cases h3
      · have h3 := lco y hy
        rw [z, nnt] at h3
        cases h3
theorem makL (T : Txt K mg) : C8.Mak P w K mg base 10 "Lone" (LC K) (spLInit K) [] := by
  obtain ⟨fd, G, F⟩ := fnLInit (P := P) (w := w) (base := base) T
  obtain ⟨ds, d, b⟩ := F.binds1 (ps := pL_Init) 5 1 (by simp) rfl fun TT kV doc pm an cdv ct us its hl hi => match us, its, hl, hi with
    | [_, _, _, _, _], [_], _, _ => ⟨_, rfl, rfl⟩
  exact ⟨_, fd, pL_Init, ds, T.mkr_Lone, G, T.glo_Lone, b, d⟩
theorem makL0 (T : Txt K mg) : C8.Mak P w K mg base 10 "Lone" (LC K) (spLInit K) [.non] := by
  obtain ⟨fd, G, F⟩ := fnLInit (P := P) (w := w) (base := base) T
  obtain ⟨ds, d, b⟩ := F.binds1 (ps := pL_Init) 4 0 (by simp) rfl fun TT kV doc pm an cdv ct us its hl hi => match us, its, hl, hi with
    | [_, _, _, _], [_], _, _ => ⟨_, rfl, rfl⟩
  exact ⟨_, fd, pL_Init, ds, T.mkr_Lone, G, T.glo_Lone, b, d⟩
end
end Sw
set_option Elab.async false
set_option linter.all false
set_option maxRecDepth 100000
set_option maxHeartbeats 4000000
/-! The plain law of a step: kinds are kept, bounds grow by one. -/
namespace Sw
open PySem PySem.Spec L2
theorem ev_ok {ks : List KR} (ok : KOk ks) : ∀ {n : Nat} {g : Ctx} {k : Str} {t : PyData} {r : EnvD}, WT ks n g k t → EnvOk ks g r → VOk ks k (ev ks n r t) := by
  intro n g k t r h
  induction h generalizing r with
  | num h0 h1 => intro _; rw [ev_num]; exact .num h0 h1
  | box hx =>
    intro e
    obtain ⟨d, h1, h2⟩ := e _ hx
    rw [ev_box, h1]
    exact h2
  | op _ _ i1 i2 => intro _; rw [ev_op]; exact .num op2_ok.1 op2_ok.2
  | @rcd n g k rr es hrow halt hlen _ ih =>
    intro e
    rw [ev_rec]
    refine .rcd hrow halt (by rw [List.length_map]; exact hlen) fun i p v h1 h2 => ?_
    rw [List.getElem?_map] at h2
    obtain ⟨x, hx, rfl⟩ := Option.map_eq_some_iff.mp h2
    exact ih i p x h1 hx e
  | @get n g k k' f rr a _ hrow halt mf ih =>
    intro e
    obtain ⟨us, eu, ul, hus⟩ := (ih e).recE ok hrow halt
    have nd := (ok.pn rr (row_mem hrow).1)
    obtain ⟨g1, g2, g3⟩ := idx_of nd.1 mf
    have hj : (rr.ps.map (·.1)).idxOf f < us.length := by
      have := (List.getElem?_eq_some_iff.mp g1).1
      omega
    have hx := List.getElem?_eq_getElem hj
    have ee : ev ks (n + 1) r (.tuple [.str "get", a, .str f]) = us[(rr.ps.map (·.1)).idxOf f] := by
      rw [ev_get, eu]
      show (match (row ks k' : Option KR) with | some (r : KR) => us.getD ((r.ps.map (fun p : Str × Str => p.1)).idxOf f) .none | none => .none) = _
      rw [hrow]
      show us.getD ((rr.ps.map (·.1)).idxOf f) .none = _
      rw [List.getD_eq_getElem?_getD, hx]
      rfl
    rw [ee]
    exact hus _ _ _ g1 hx
  | tag hrow halt mt _ ih => intro e; rw [ev_tag]; exact .alt hrow halt mt (ih e)
  | @case n g k k' rr a arms kf _ hrow halt cov mem fresh _ ia im =>
    intro e
    obtain ⟨tg, kt, d, ed, mt, vd⟩ := (ia e).altE ok hrow halt
    have nd := (ok.pn rr (row_mem hrow).1)
    obtain ⟨m0, hm0, em0⟩ := cov _ mt
    have hs : ∃ m, arms.find? (fun m => decide (m.1 = tg)) = some m := by
      cases c : arms.find? (fun m => decide (m.1 = tg)) with
      | none =>
        have := List.find?_eq_none.mp c m0 hm0
        exact absurd (decide_eq_true em0) this
      | some m => exact ⟨m, rfl⟩
    obtain ⟨m, hm⟩ := hs
    have mm := List.mem_of_find?_eq_some hm
    have em : m.1 = tg := of_decide_eq_true (List.find?_some (p := fun m : Str × Str × PyData => decide (m.1 = tg)) hm)
    have f1 : (arms.map armD).find? (fun a' => decide (sOf ((tOf a').getD 0 .none) = sOf ((tOf (ev ks n r a)).getD 1 .none))) = some (armD m) := by
      rw [ed, List.find?_map]
      have : arms.find? ((fun a' => decide (sOf ((tOf a').getD 0 .none) = sOf ((tOf (.tuple [.str k', .str tg, d])).getD 1 .none))) ∘ armD) = some m := hm
      rw [this]
      rfl
    have ek : kf m.1 = kt := by
      have h1 := mem m mm
      rw [em] at h1 ⊢
      exact key_uniq nd.1 h1 mt
    rw [ev_case, f1, ed]
    exact im m mm (e.put (fresh m mm) (by rw [ek]; exact vd))
  | @ite n g k a b c _ _ _ i1 i2 i3 =>
    intro e
    rw [ev_if]
    split
    · exact i2 e
    · exact i3 e
theorem putA_names {r : EnvD} {x : Str} {d : PyData} (h : x ∈ r.map (·.1)) : (putA r x d).map (·.1) = r.map (·.1) := by
  unfold putA
  have c : (r.any fun p => decide (p.1 = x)) = true := by
    obtain ⟨p, hp, e⟩ := List.mem_map.mp h
    exact List.any_eq_true.mpr ⟨p, hp, decide_eq_true e⟩
  rw [if_pos c, List.map_map]
  refine List.map_congr_left fun p _ => ?_
  show (if p.1 = x then (p.1, d) else p).1 = p.1
  by_cases e : p.1 = x
  · rw [if_pos e]
  · rw [if_neg e]
theorem EnvOk.set {ks : List KR} {g : Ctx} {r : EnvD} (h : EnvOk ks g r) (nd : (g.map (·.1)).Nodup) {x k : Str} (m : (x, k) ∈ g) {d : PyData} (v : VOk ks k d) : EnvOk ks g (putA r x d) := by
  intro p hp
  by_cases e : p.1 = x
  · refine ⟨d, by rw [lookA_put, if_pos e], ?_⟩
    have : p.2 = k := key_uniq nd (f := x) (by rw [← e]; exact hp) m
    rw [this]
    exact v
  · obtain ⟨d', h1, h2⟩ := h p hp
    exact ⟨d', by rw [lookA_put, if_neg e]; exact h1, h2⟩
theorem HSOk.set {ks : List KR} {hd : Hd} {hs : HS} (h : HSOk ks hd hs) (nd : (hd.bx.map (·.1)).Nodup) {x k : Str} (m : (x, k) ∈ hd.bx) {d : PyData} (v : VOk ks k d) {i : Nat} (hi : i < hd.rows.length) {z : Int} : HSOk ks hd { hs with at_ := i, held := putA hs.held x d, done := z } := by
  refine ⟨hi, h.env.set nd m v, ?_⟩
  show (putA hs.held x d).map (·.1) = _
  rw [putA_names (by rw [h.nm]; exact List.mem_map_of_mem (f := (·.1)) m)]
  exact h.nm
theorem nm_inj {cs : List Ch} (nd : (cs.map (·.nm)).Nodup) {a b : Ch} (ha : a ∈ cs) (hb : b ∈ cs) (e : a.nm = b.nm) : a = b := by
  obtain ⟨i, hi, ei⟩ := List.mem_iff_getElem.mp ha
  obtain ⟨j, hj, ej⟩ := List.mem_iff_getElem.mp hb
  have h2 : (cs.map (·.nm))[i]? = (cs.map (·.nm))[j]? := by
    rw [List.getElem?_map, List.getElem?_map, List.getElem?_eq_getElem hi, List.getElem?_eq_getElem hj, ei, ej]
    exact congrArg some e
  have := (List.getElem?_inj (by rw [List.length_map]; omega) nd).mp h2
  subst this
  exact ei.symm.trans ej
/-- what a step keeps: kinds, letters of channels that are not the hand's, bounds -/
structure StepOk (ks : List KR) (cs : List Ch) (hd : Hd) (hs : HS) (q : Qs) (hs' : HS) (q' : Qs) : Prop where
  hs_ : HSOk ks hd hs'
  q_ : QsOk ks cs q'
  off : ∀ c, (∀ ch ∈ cs, ch.nm = c → ch.to ≠ hd.nm ∧ ch.fr ≠ hd.nm) → q' c = q c
  nb : hs'.notes.length ≤ hs.notes.length + 1
  qb : ∀ c, (q' c).length ≤ (q c).length + 1
theorem setQ_len {q : Qs} {c : Str} {l : List PyData} (h : l.length ≤ (q c).length + 1) (x : Str) : (setQ q c l x).length ≤ (q x).length + 1 := by
  unfold setQ
  by_cases e : x = c
  · rw [if_pos e, e]; exact h
  · rw [if_neg e]; omega
theorem setQ_off {q : Qs} {cs : List Ch} {ch : Ch} (m : ch ∈ cs) {n : Str} (h : ch.to = n ∨ ch.fr = n) {l : List PyData} (c : Str) (o : ∀ ch ∈ cs, ch.nm = c → ch.to ≠ n ∧ ch.fr ≠ n) : setQ q ch.nm l c = q c := by
  unfold setQ
  rw [if_neg]
  intro e
  have := o ch m e.symm
  rcases h with h | h
  · exact this.1 h
  · exact this.2 h
theorem setQ_ok {ks : List KR} {cs : List Ch} {q : Qs} (nd : (cs.map (·.nm)).Nodup) (h : QsOk ks cs q) {ch : Ch} (m : ch ∈ cs) {l : List PyData} (hl : ∀ d ∈ l, VOk ks ch.kd d) : QsOk ks cs (setQ q ch.nm l) := by
  intro c hc d hd
  unfold setQ at hd
  by_cases e : c.nm = ch.nm
  · rw [if_pos e] at hd
    rw [nm_inj nd hc m e]
    exact hl d hd
  · rw [if_neg e] at hd
    exact h c hc d hd
theorem stepA_ok {ks : List KR} {cs : List Ch} {hd : Hd} {hs : HS} {q : Qs} {hs' : HS} {q' : Qs} (ok : KOk ks) (cn : (cs.map (·.nm)).Nodup) (hok : HandOk ks cs hd) (ho : HSOk ks hd hs) (hq : QsOk ks cs q) (e : stepA ks hd.rows hs q = some (hs', q')) : StepOk ks cs hd hs q hs' q' := by
  obtain ⟨r, hr0⟩ : ∃ r, hd.rows[hs.at_]? = some r := ⟨_, List.getElem?_eq_getElem ho.at_⟩
  have rok := hok.rows.2.2 _ _ hr0
  have hrD := getD_of hr0
  cases rok with
  | end_ => rw [sA_end hrD] at e; cases e
  | @go j hj =>
    rw [sA_go hrD, adv_of hr0 leadD_go (way := 0) (nx := j) rfl] at e
    cases e
    exact ⟨⟨hj, ho.env, ho.nm⟩, hq, fun _ _ => rfl, by show hs.notes.length ≤ _; omega, fun c => by omega⟩
  | @take l x c hc hto hbx hnx =>
    have lead := leadD_next (i := hs.at_) (w := "take") (l := [.str l, .str c.nm, .str x]) (by decide +kernel) (by decide +kernel) (by decide +kernel)
    rw [sA_take hrD] at e
    cases hqc : q c.nm with
    | nil => rw [hqc] at e; cases e
    | cons d ds =>
      rw [hqc, adv_of hr0 lead (way := 0) (nx := hs.at_ + 1) rfl] at e
      cases e
      exact ⟨ho.set hok.bn hbx (hq c hc d (by rw [hqc]; exact List.mem_cons_self)) hnx, setQ_ok cn hq hc fun y hy => hq c hc y (by rw [hqc]; exact List.mem_cons_of_mem _ hy), setQ_off hc (.inl hto), by show hs.notes.length ≤ _; omega, setQ_len (by rw [hqc, List.length_cons]; omega)⟩
  | @send c e2 hc hfr hwt hnx =>
    have lead := leadD_next (i := hs.at_) (w := "send") (l := [.str c.nm, e2]) (by decide +kernel) (by decide +kernel) (by decide +kernel)
    rw [sA_send hrD, adv_of hr0 lead (way := 0) (nx := hs.at_ + 1) rfl] at e
    cases e
    refine ⟨⟨hnx, ho.env, ho.nm⟩, setQ_ok cn hq hc fun y hy => ?_, setQ_off hc (.inr hfr), by show hs.notes.length ≤ _; omega, setQ_len (by rw [List.length_append, List.length_singleton]; omega)⟩
    rcases List.mem_append.mp hy with hy | hy
    · exact hq c hc y hy
    · rw [List.mem_singleton] at hy
      rw [hy]
      exact ev_ok ok hwt ho.env
  | @set x κ e2 hx hwt hnx =>
    have lead := leadD_next (i := hs.at_) (w := "set") (l := [.str x, e2]) (by decide +kernel) (by decide +kernel) (by decide +kernel)
    rw [sA_set hrD, adv_of hr0 lead (way := 0) (nx := hs.at_ + 1) rfl] at e
    cases e
    exact ⟨ho.set hok.bn hx (ev_ok ok hwt ho.env) hnx, hq, fun _ _ => rfl, by show hs.notes.length ≤ _; omega, fun c => by omega⟩
  | @tell e2 hwt hnx =>
    have lead := leadD_next (i := hs.at_) (w := "tell") (l := [e2]) (by decide +kernel) (by decide +kernel) (by decide +kernel)
    rw [sA_tell hrD, adv_of hr0 lead (way := 0) (nx := hs.at_ + 1) rfl] at e
    cases e
    exact ⟨⟨hnx, ho.env, ho.nm⟩, hq, fun _ _ => rfl, by show (hs.notes ++ [_]).length ≤ _; rw [List.length_append, List.length_singleton]; omega, fun c => by omega⟩
  | @ifr e2 j hwt hj hnx =>
    rw [sA_if hrD] at e
    by_cases c0 : iOf (ev ks tN hs.held e2) = 0
    · rw [if_pos c0, adv_of hr0 leadD_if (way := 1) (nx := hs.at_ + 1) rfl] at e
      cases e
      exact ⟨⟨hnx, ho.env, ho.nm⟩, hq, fun _ _ => rfl, by show hs.notes.length ≤ _; omega, fun c => by omega⟩
    · rw [if_neg c0, adv_of hr0 leadD_if (way := 0) (nx := j) rfl] at e
      cases e
      exact ⟨⟨hj, ho.env, ho.nm⟩, hq, fun _ _ => rfl, by show hs.notes.length ≤ _; omega, fun c => by omega⟩
/-- whether a hand waits or has ended -/
def waitA (rs : List PyData) (hs : HS) (q : Qs) : Bool := decide (wrd (rs.getD hs.at_ .none) = "end") || (decide (wrd (rs.getD hs.at_ .none) = "take") && (q (sOf (arg (rs.getD hs.at_ .none) 2))).isEmpty)
/-! ### houses -/
structure St where
  hs : Str → HS
  q : Qs
structure SOk (m : Make) (S : St) : Prop where
  hs : ∀ h ∈ m.hs, HSOk m.ks h (S.hs h.nm)
  q : QsOk m.ks m.cs S.q
def Bnd (m : Make) (n : Nat) (S : St) : Prop := (∀ h ∈ m.hs, (S.hs h.nm).notes.length ≤ n) ∧ ∀ c, (S.q c).length ≤ n
theorem Bnd.mono {m : Make} {n k : Nat} {S : St} (b : Bnd m n S) (h : n ≤ k) : Bnd m k S := ⟨fun x hx => Nat.le_trans (b.1 x hx) h, fun c => Nat.le_trans (b.2 c) h⟩
def stepH (m : Make) (h : Str) (S : St) : Bool × St := match handOf m h with
  | none => (false, S)
  | some hd => match stepA m.ks hd.rows (S.hs h) S.q with
    | none => (false, S)
    | some (hs', q') => (true, ⟨fun n => if n = h then hs' else S.hs n, q'⟩)
theorem hd_inj {m : Make} (ok : MOk m) {a b : Hd} (ha : a ∈ m.hs) (hb : b ∈ m.hs) (e : a.nm = b.nm) : a = b := by
  obtain ⟨i, hi, ei⟩ := List.mem_iff_getElem.mp ha
  obtain ⟨j, hj, ej⟩ := List.mem_iff_getElem.mp hb
  have h2 : (m.hs.map (·.nm))[i]? = (m.hs.map (·.nm))[j]? := by
    rw [List.getElem?_map, List.getElem?_map, List.getElem?_eq_getElem hi, List.getElem?_eq_getElem hj, ei, ej]
    exact congrArg some e
  have := (List.getElem?_inj (by rw [List.length_map]; omega) ok.hn).mp h2
  subst this
  exact ei.symm.trans ej
theorem handOf_mem {m : Make} (ok : MOk m) {h : Hd} (hm : h ∈ m.hs) : handOf m h.nm = some h := by
  obtain ⟨i, hi, ei⟩ := List.mem_iff_getElem.mp hm
  exact find_of (fun x : Hd => x.nm) ok.hn (i := i) (by rw [List.getElem?_eq_getElem hi, ei])
theorem stepH_ok {m : Make} (ok : MOk m) {S : St} (so : SOk m S) (h : Str) : SOk m (stepH m h S).2 := by
  unfold stepH
  cases e : handOf m h with
  | none => exact so
  | some hd =>
    obtain ⟨hm, hn⟩ := mem_hs e
    cases e2 : stepA m.ks hd.rows (S.hs h) S.q with
    | none => simp only [e2]; exact so
    | some p =>
      obtain ⟨hs', q'⟩ := p
      simp only [e2]
      have sk := stepA_ok ok.ks ok.cn (ok.hd hd hm) (by rw [← hn]; exact so.hs hd hm) so.q e2
      refine ⟨fun x hx => ?_, sk.q_⟩
      show HSOk m.ks x (if x.nm = h then hs' else S.hs x.nm)
      by_cases c : x.nm = h
      · rw [if_pos c, hd_inj ok hx hm (c.trans hn.symm)]
        exact sk.hs_
      · rw [if_neg c]
        exact so.hs x hx
theorem stepH_bnd {m : Make} (ok : MOk m) {S : St} (so : SOk m S) {n : Nat} (b : Bnd m n S) (h : Str) : Bnd m (n + 1) (stepH m h S).2 := by
  unfold stepH
  cases e : handOf m h with
  | none => exact b.mono (Nat.le_succ _)
  | some hd =>
    obtain ⟨hm, hn⟩ := mem_hs e
    cases e2 : stepA m.ks hd.rows (S.hs h) S.q with
    | none => simp only [e2]; exact b.mono (Nat.le_succ _)
    | some p =>
      obtain ⟨hs', q'⟩ := p
      simp only [e2]
      have sk := stepA_ok ok.ks ok.cn (ok.hd hd hm) (by rw [← hn]; exact so.hs hd hm) so.q e2
      refine ⟨fun x hx => ?_, fun c => Nat.le_trans (sk.qb c) (Nat.succ_le_succ (b.2 c))⟩
      show (if x.nm = h then hs' else S.hs x.nm).notes.length ≤ n + 1
      by_cases c : x.nm = h
      · rw [if_pos c]
        have h1 := b.1 hd hm
        rw [hn] at h1
        exact Nat.le_trans sk.nb (Nat.succ_le_succ h1)
      · rw [if_neg c]
        exact Nat.le_succ_of_le (b.1 x hx)
end Sw
set_option Elab.async false
set_option linter.all false
set_option maxRecDepth 100000
set_option maxHeartbeats 4000000
/-! A house in the heap, and its methods. -/
namespace Sw
open PySem PySem.Spec PyProof.Rows L2
structure PA where
  p : Addr
  dx : Addr
  hd : Addr
  ln : Addr
  A : Str → LAd
  L : Str → Addr
def plFs (mv : V) (hd ln : Addr) : List (Str × V) := [("make", mv), ("hands", .ref hd), ("lines", .ref ln)]
section
variable {mv : V} {hd ln : Addr}
theorem pf_make : (plFs mv hd ln).lookup ("make" : Str) = some mv := by kernel_rfl
theorem pf_hands : (plFs mv hd ln).lookup ("hands" : Str) = some (V.ref hd) := by kernel_rfl
theorem pf_lines : (plFs mv hd ln).lookup ("lines" : Str) = some (V.ref ln) := by kernel_rfl
theorem pf_no (m : Str) (h : (["make", "hands", "lines"] : List Str).contains m = false) : (plFs mv hd ln).lookup m = none := by
  have h2 : m ∉ (plFs mv hd ln).map (·.1) := fun hm => by
    have : (["make", "hands", "lines"] : List Str).contains m = true := List.contains_iff_mem.mpr hm
    rw [h] at this
    cases this
  exact List.lookup_eq_none_iff.mpr fun p hp => by
    have : m ≠ p.1 := fun e => h2 (by rw [e]; exact List.mem_map_of_mem (f := (·.1)) hp)
    simpa using this
end
def ciOf (m : Make) (I : Str → Addr) (h : Str) : List (Str × Addr) := (chTo m.cs h).map fun c => (c.nm, I c.nm)
def coOf (m : Make) (O : Str → Addr) (h : Str) : List (Str × Addr) := (chFr m.cs h).map fun c => (c.nm, O c.nm)
def lnOf (m : Make) (I : Str → Addr) : List (Str × Addr) := m.cs.map fun c => (c.nm, I c.nm)
def hdD (hs : List Hd) (A : Str → LAd) : List (Key × V) := hs.map fun h => ((Sum.inr h.nm : Key), V.ref (A h.nm).p)
/-- its places stand apart -/
structure Apart (m : Make) (a : PA) : Prop where
  p1 : ∀ h ∈ m.hs, ∀ k ∈ m.hs, (a.A h.nm).p = (a.A k.nm).p → h.nm = k.nm
  p2 : ∀ h ∈ m.hs, ∀ k ∈ m.hs, (a.A h.nm).hd = (a.A k.nm).hd → h.nm = k.nm
  p3 : ∀ h ∈ m.hs, ∀ k ∈ m.hs, (a.A h.nm).nt = (a.A k.nm).nt → h.nm = k.nm
  p4 : ∀ h ∈ m.hs, ∀ k ∈ m.hs, (a.A h.nm).la ≠ (a.A k.nm).nt
  p5 : ∀ h ∈ m.hs, ∀ k ∈ m.hs, (a.A h.nm).cd ≠ (a.A k.nm).hd
  p6 : ∀ h ∈ m.hs, ∀ k ∈ m.hs, (a.A h.nm).gd ≠ (a.A k.nm).hd
  p7 : ∀ h ∈ m.hs, ∀ c ∈ m.cs, a.L c.nm ≠ (a.A h.nm).nt
  p8 : ∀ h ∈ m.hs, ∀ c ∈ m.cs, a.L c.nm ≠ (a.A h.nm).la
  p9 : ∀ c ∈ m.cs, ∀ e ∈ m.cs, a.L c.nm = a.L e.nm → c.nm = e.nm
  p10 : ∀ h ∈ m.hs, a.hd ≠ (a.A h.nm).hd ∧ a.ln ≠ (a.A h.nm).hd ∧ a.p ≠ (a.A h.nm).p
  p11 : ∀ h ∈ m.hs, a.hd ≠ (a.A h.nm).cd ∧ a.hd ≠ (a.A h.nm).gd
  p12 : a.hd ≠ a.ln
structure HouseAt (K : PySem.W.Frag) (H : Hp) (mv kv : V) (m : Make) (a : PA) (S : St) : Prop where
  ob : H a.p = some (.ins (PC K) a.dx (plFs mv a.hd a.ln))
  hd : H a.hd = some (.dK (hdD m.hs a.A))
  ln : H a.ln = some (.dK (lnD (lnOf m a.L)))
  im : Im H mv m.d
  ks : KsAt H kv m.ks
  lone : ∀ h ∈ m.hs, LoneAt K H kv (a.A h.nm) h.rows (ciOf m a.L h.nm) (coOf m a.L h.nm) (S.hs h.nm)
  lines : Lines H (lnOf m a.L) S.q
  ap : Apart m a
/-- what a step may touch; all its places -/
def PA.mut (m : Make) (a : PA) : List Addr := (m.hs.flatMap fun h => [(a.A h.nm).p, (a.A h.nm).hd, (a.A h.nm).nt]) ++ m.cs.map fun c => a.L c.nm
def PA.all (m : Make) (a : PA) : List Addr := a.p :: a.hd :: a.ln :: (m.hs.flatMap fun h => (a.A h.nm).p :: (a.A h.nm).own) ++ m.cs.map fun c => a.L c.nm
theorem mut_all {m : Make} {a : PA} : ∀ b ∈ a.mut m, b ∈ a.all m := fun b hb => by
  rcases List.mem_append.mp hb with hb | hb
  · obtain ⟨h, hh, e⟩ := List.mem_flatMap.mp hb
    refine List.mem_append_left _ (List.mem_cons_of_mem _ (List.mem_cons_of_mem _ (List.mem_cons_of_mem _ (List.mem_flatMap.mpr ⟨h, hh, ?_⟩))))
    simp only [List.mem_cons, List.not_mem_nil, or_false] at e
    rcases e with rfl | rfl | rfl
    · exact List.mem_cons_self
    · simp [LAd.own]
    · simp [LAd.own]
  · exact List.mem_append_right _ hb
section
variable {K : PySem.W.Frag} {H H' : Hp} {mv kv : V} {m : Make} {a : PA} {S : St}
theorem all_h {h : Hd} (hm : h ∈ m.hs) {b : Addr} (hb : b ∈ (a.A h.nm).p :: (a.A h.nm).own) : b ∈ a.all m :=
  List.mem_append_left _ (List.mem_cons_of_mem _ (List.mem_cons_of_mem _ (List.mem_cons_of_mem _ (List.mem_flatMap.mpr ⟨h, hm, hb⟩))))
theorem all_c {c : Ch} (hc : c ∈ m.cs) : a.L c.nm ∈ a.all m := List.mem_append_right _ (List.mem_map_of_mem (f := fun c : Ch => a.L c.nm) hc)
theorem HouseAt.keep (h : HouseAt K H mv kv m a S) (t : TS H H') (k : ∀ b ∈ a.all m, ∀ o, H b = some o → H' b = some o) : HouseAt K H' mv kv m a S := by
  refine ⟨k _ (by simp [PA.all]) _ h.ob, k _ (by simp [PA.all]) _ h.hd, k _ (by simp [PA.all]) _ h.ln, h.im.mono t, h.ks.mono t, fun x hx => (h.lone x hx).keep t fun b hb o e => k b (all_h hx ?_) o e, h.lines.keep t fun y hy o e => k _ ?_ o e, h.ap⟩
  · rcases hb with rfl | rfl | rfl | rfl | rfl | rfl <;> simp [LAd.own]
  · obtain ⟨c, hc, rfl⟩ := List.mem_map.mp hy
    exact all_c hc
theorem HouseAt.same (h : HouseAt K H mv kv m a S) (s : Same H H') : HouseAt K H' mv kv m a S := h.keep (ts_same s) fun b _ o e => s b o e
/-- all of its places are taken -/
theorem HouseAt.taken (h : HouseAt K H mv kv m a S) : ∀ b ∈ a.all m, H b ≠ none := by
  intro b hb
  rcases List.mem_append.mp hb with hb | hb
  · simp only [List.mem_cons, List.mem_flatMap] at hb
    rcases hb with rfl | rfl | rfl | ⟨x, hx, hb⟩
    · rw [h.ob]; exact Option.some_ne_none _
    · rw [h.hd]; exact Option.some_ne_none _
    · rw [h.ln]; exact Option.some_ne_none _
    · have L := h.lone x hx
      obtain ⟨ls, l1, _⟩ := L.la
      obtain ⟨kvs, d1, _⟩ := L.hd
      simp only [LAd.own, List.mem_cons, List.not_mem_nil, or_false] at hb
      rcases hb with rfl | rfl | rfl | rfl | rfl | rfl
      · rw [L.ob]; exact Option.some_ne_none _
      · rw [l1]; exact Option.some_ne_none _
      · rw [d1]; exact Option.some_ne_none _
      · rw [L.cd]; exact Option.some_ne_none _
      · rw [L.gd]; exact Option.some_ne_none _
      · rw [L.nt]; exact Option.some_ne_none _
  · obtain ⟨c, hc, rfl⟩ := List.mem_map.mp hb
    obtain ⟨xs, e, _⟩ := h.lines (c.nm, a.L c.nm) (List.mem_map_of_mem (f := fun c : Ch => (c.nm, a.L c.nm)) hc)
    have e2 : H (a.L c.nm) = some (.lst xs) := e
    rw [e2]
    exact Option.some_ne_none _
theorem hdD_get (ok : MOk m) {A : Str → LAd} {h : Hd} (hm : h ∈ m.hs) : valV (hdD m.hs A) (Sum.inr h.nm : Key) = some (.ref (A h.nm).p) := by
  have e : hdD m.hs A = lnD (m.hs.map fun h => (h.nm, (A h.nm).p)) := by
    rw [hdD, lnD, List.map_map]
    rfl
  rw [e]
  exact lnD_get (ls := m.hs.map fun h => (h.nm, (A h.nm).p)) (x := (h.nm, (A h.nm).p)) (by rw [List.map_map]; exact ok.hn) (List.mem_map_of_mem (f := fun h : Hd => (h.nm, (A h.nm).p)) hm)
/-- the channels at a hand's ends are lines of the house -/
theorem adj_mem {I : Str → Addr} {h : Str} : ∀ x ∈ ciOf m I h ++ coOf m I h, ∃ c ∈ m.cs, x = (c.nm, I c.nm) ∧ (c.to = h ∨ c.fr = h) := fun x hx => by
  rcases List.mem_append.mp hx with hx | hx
  · obtain ⟨c, hc, rfl⟩ := List.mem_map.mp hx
    obtain ⟨h1, h2⟩ := List.mem_filter.mp hc
    exact ⟨c, h1, rfl, .inl (of_decide_eq_true h2)⟩
  · obtain ⟨c, hc, rfl⟩ := List.mem_map.mp hx
    obtain ⟨h1, h2⟩ := List.mem_filter.mp hc
    exact ⟨c, h1, rfl, .inr (of_decide_eq_true h2)⟩
theorem ciOf_nd (ok : MOk m) {I : Str → Addr} {h : Str} : ((ciOf m I h).map (·.1)).Nodup := by
  have e : (ciOf m I h).map (·.1) = (chTo m.cs h).map (·.nm) := by rw [ciOf, List.map_map]; rfl
  rw [e]
  exact (List.Sublist.map _ List.filter_sublist).nodup ok.cn
theorem coOf_nd (ok : MOk m) {I : Str → Addr} {h : Str} : ((coOf m I h).map (·.1)).Nodup := by
  have e : (coOf m I h).map (·.1) = (chFr m.cs h).map (·.nm) := by rw [coOf, List.map_map]; rfl
  rw [e]
  exact (List.Sublist.map _ List.filter_sublist).nodup ok.cn
theorem HouseAt.adr (h : HouseAt K H mv kv m a S) (ok : MOk m) {x : Hd} (hx : x ∈ m.hs) : Adr (a.A x.nm) (ciOf m a.L x.nm) (coOf m a.L x.nm) where
  cin := ciOf_nd ok
  con := coOf_nd ok
  inj := fun y hy z hz => by
    obtain ⟨c, hc, rfl, _⟩ := adj_mem y hy
    obtain ⟨e, he, rfl, _⟩ := adj_mem z hz
    exact ⟨fun q => h.ap.p9 c hc e he q, fun q => congrArg a.L q⟩
  nt := fun y hy => by
    obtain ⟨c, hc, rfl, _⟩ := adj_mem y hy
    exact h.ap.p7 x hx c hc
  la := fun y hy => by
    obtain ⟨c, hc, rfl, _⟩ := adj_mem y hy
    exact h.ap.p8 x hx c hc
  lant := h.ap.p4 x hx x hx
  hdcd := Ne.symm (h.ap.p5 x hx x hx)
  hdgd := Ne.symm (h.ap.p6 x hx x hx)
/-- a hand's step, seen from the house -/
theorem HouseAt.step (h : HouseAt K H mv kv m a S) (ok : MOk m) {x : Hd} (hx : x ∈ m.hs) {hs' : HS} {q' : Qs} (b : But (foot (a.A x.nm) (ciOf m a.L x.nm) (coOf m a.L x.nm)) H H') (L : LoneAt K H' kv (a.A x.nm) x.rows (ciOf m a.L x.nm) (coOf m a.L x.nm) hs')
    (ln : Lines H' (ciOf m a.L x.nm ++ coOf m a.L x.nm) q') (off : ∀ c, (∀ ch ∈ m.cs, ch.nm = c → ch.to ≠ x.nm ∧ ch.fr ≠ x.nm) → q' c = S.q c) :
    But (a.mut m) H H' ∧ HouseAt K H' mv kv m a ⟨fun n => if n = x.nm then hs' else S.hs n, q'⟩ := by
  have Lx := h.lone x hx
  obtain ⟨lsx, lx1, _⟩ := Lx.la
  obtain ⟨kvx, dx1, _⟩ := Lx.hd
  -- a list outside, a dict outside, an object outside of what is touched stays
  have onL : ∀ b ∈ (ciOf m a.L x.nm ++ coOf m a.L x.nm).map (·.2), ∃ c ∈ m.cs, b = a.L c.nm ∧ ∃ xs, H b = some (.lst xs) := fun b hb => by
    obtain ⟨y, hy, rfl⟩ := List.mem_map.mp hb
    obtain ⟨c, hc, rfl, _⟩ := adj_mem y hy
    obtain ⟨xs, e, _⟩ := h.lines (c.nm, a.L c.nm) (List.mem_map_of_mem (f := fun c : Ch => (c.nm, a.L c.nm)) hc)
    exact ⟨c, hc, rfl, xs, e⟩
  have st : ∀ d o, H d = some o → d ≠ (a.A x.nm).p → d ≠ (a.A x.nm).hd → d ≠ (a.A x.nm).nt → (∀ c ∈ m.cs, (c.to = x.nm ∨ c.fr = x.nm) → d ≠ a.L c.nm) → H' d = some o := fun d o e n1 n2 n3 n4 => b d o e fun hm => by
    simp only [foot, List.mem_cons] at hm
    rcases hm with rfl | rfl | rfl | hm
    · exact n1 rfl
    · exact n2 rfl
    · exact n3 rfl
    · obtain ⟨y, hy, rfl⟩ := List.mem_map.mp hm
      obtain ⟨c, hc, rfl, hh⟩ := adj_mem y hy
      exact n4 c hc hh rfl
  have nel : ∀ {d : Addr} {o : HO}, H d = some o → (∀ xs, o ≠ .lst xs) → d ≠ (a.A x.nm).nt ∧ ∀ c ∈ m.cs, d ≠ a.L c.nm := fun {d o} e n => by
    refine ⟨fun z => ?_, fun c hc z => ?_⟩
    · rw [z, Lx.nt] at e; cases e; exact n _ rfl
    · obtain ⟨xs, e2, _⟩ := h.lines (c.nm, a.L c.nm) (List.mem_map_of_mem (f := fun c : Ch => (c.nm, a.L c.nm)) hc)
      have e3 : H (a.L c.nm) = some (.lst xs) := e2
      rw [z, e3] at e; cases e; exact n _ rfl
  have nei : ∀ {d : Addr} {o : HO}, H d = some o → (∀ C y fs, o ≠ .ins C y fs) → d ≠ (a.A x.nm).p := fun {d o} e n z => by rw [z, Lx.ob] at e; cases e; exact n _ _ _ rfl
  have ned : ∀ {d : Addr} {o : HO}, H d = some o → (∀ y, o ≠ .dK y) → d ≠ (a.A x.nm).hd := fun {d o} e n z => by rw [z, dx1] at e; cases e; exact n _ rfl
  have ts : TS H H' := fun d us e => st d _ e (nei e fun _ _ _ z => by cases z) (ned e fun _ z => by cases z) (nel e fun _ z => by cases z).1 fun c hc _ => (nel e fun _ z => by cases z).2 c hc
  refine ⟨b.sub fun d hd => ?_, ?_⟩
  · simp only [foot, List.mem_cons] at hd
    rcases hd with rfl | rfl | rfl | hd
    · exact List.mem_append_left _ (List.mem_flatMap.mpr ⟨x, hx, by simp⟩)
    · exact List.mem_append_left _ (List.mem_flatMap.mpr ⟨x, hx, by simp⟩)
    · exact List.mem_append_left _ (List.mem_flatMap.mpr ⟨x, hx, by simp⟩)
    · obtain ⟨c, hc, e, _⟩ := onL d hd
      rw [e]
      exact List.mem_append_right _ (List.mem_map_of_mem (f := fun c : Ch => a.L c.nm) hc)
  refine ⟨st _ _ h.ob (h.ap.p10 x hx).2.2 (ned h.ob fun _ z => by cases z) (nel h.ob fun _ z => by cases z).1 fun c hc _ => (nel h.ob fun _ z => by cases z).2 c hc,
    st _ _ h.hd (nei h.hd fun _ _ _ z => by cases z) (h.ap.p10 x hx).1 (nel h.hd fun _ z => by cases z).1 fun c hc _ => (nel h.hd fun _ z => by cases z).2 c hc,
    st _ _ h.ln (nei h.ln fun _ _ _ z => by cases z) (h.ap.p10 x hx).2.1 (nel h.ln fun _ z => by cases z).1 fun c hc _ => (nel h.ln fun _ z => by cases z).2 c hc,
    h.im.mono ts, h.ks.mono ts, fun y hy => ?_, fun y hy => ?_, h.ap⟩
  · show LoneAt K H' kv (a.A y.nm) y.rows (ciOf m a.L y.nm) (coOf m a.L y.nm) (if y.nm = x.nm then hs' else S.hs y.nm)
    by_cases e : y.nm = x.nm
    · rw [if_pos e]
      obtain rfl := hd_inj ok hy hx e
      exact L
    · rw [if_neg e]
      have Ly := h.lone y hy
      obtain ⟨lsy, ly1, _⟩ := Ly.la
      obtain ⟨kvy, dy1, _⟩ := Ly.hd
      refine Ly.keep ts fun d hd o eo => ?_
      rcases hd with rfl | rfl | rfl | rfl | rfl | rfl
      · exact st _ _ eo (fun z => e (h.ap.p1 y hy x hx z)) (fun z => by rw [z, dx1] at eo; cases eo; have := Ly.ob; rw [z, dx1] at this; cases this) (fun z => by have := Ly.ob; rw [z, Lx.nt] at this; cases this) fun c hc _ => (nel Ly.ob fun _ z => by cases z).2 c hc
      · exact st _ _ eo (nei ly1 fun _ _ _ z => by cases z) (ned ly1 fun _ z => by cases z) (h.ap.p4 y hy x hx) fun c hc _ => Ne.symm (h.ap.p8 y hy c hc)
      · exact st _ _ eo (nei dy1 fun _ _ _ z => by cases z) (fun z => e (h.ap.p2 y hy x hx z)) (nel dy1 fun _ z => by cases z).1 fun c hc _ => (nel dy1 fun _ z => by cases z).2 c hc
      · exact st _ _ eo (nei Ly.cd fun _ _ _ z => by cases z) (h.ap.p5 y hy x hx) (nel Ly.cd fun _ z => by cases z).1 fun c hc _ => (nel Ly.cd fun _ z => by cases z).2 c hc
      · exact st _ _ eo (nei Ly.gd fun _ _ _ z => by cases z) (h.ap.p6 y hy x hx) (nel Ly.gd fun _ z => by cases z).1 fun c hc _ => (nel Ly.gd fun _ z => by cases z).2 c hc
      · exact st _ _ eo (nei Ly.nt fun _ _ _ z => by cases z) (ned Ly.nt fun _ z => by cases z) (fun z => e (h.ap.p3 y hy x hx z)) fun c hc _ => Ne.symm (h.ap.p7 y hy c hc)
  · obtain ⟨c, hc, rfl⟩ := List.mem_map.mp hy
    by_cases adj : c.to = x.nm ∨ c.fr = x.nm
    · refine ln (c.nm, a.L c.nm) ?_
      rcases adj with e | e
      · exact List.mem_append_left _ (List.mem_map_of_mem (f := fun c : Ch => (c.nm, a.L c.nm)) (List.mem_filter.mpr ⟨hc, decide_eq_true e⟩))
      · exact List.mem_append_right _ (List.mem_map_of_mem (f := fun c : Ch => (c.nm, a.L c.nm)) (List.mem_filter.mpr ⟨hc, decide_eq_true e⟩))
    · obtain ⟨xs, e1, e2⟩ := h.lines (c.nm, a.L c.nm) hy
      have e1' : H (a.L c.nm) = some (.lst xs) := e1
      have eq : q' c.nm = S.q c.nm := off c.nm fun ch hch en => by
        rw [nm_inj ok.cn hch hc en]
        exact ⟨fun z => adj (.inl z), fun z => adj (.inr z)⟩
      refine ⟨xs, st _ _ e1 (nei e1' fun _ _ _ z => by cases z) (ned e1' fun _ z => by cases z) (h.ap.p7 x hx c hc) fun c2 hc2 ha z => ?_, ?_⟩
      · have := h.ap.p9 c hc c2 hc2 z
        rw [nm_inj ok.cn hc hc2 this] at adj
        exact adj ha
      · show Ims H' xs (q' c.nm)
        rw [eq]
        exact Ims.mono ts e2
end
section
variable {P : Program} {w : World} {K : PySem.W.Frag} {mg : Str → Option Value} {base : Heap}
def spPStep (K : PySem.W.Frag) : Sp := fun vs H Q _ => ∃ (mv kv : V) (m : Make) (a : PA) (S : St) (h : Hd), vs = [.ref a.p, .str h.nm] ∧ HouseAt K H mv kv m a S ∧ MOk m ∧ SOk m S ∧ h ∈ m.hs ∧ Bnd m 10000 S ∧
  ∀ H', But (a.mut m) H H' → HouseAt K H' mv kv m a (stepH m h.nm S).2 → Q (.bl (stepH m h.nm S).1) H'
theorem metPStep (T : Txt K mg) : C8.Met P w K mg base 23 (PC K) "step" (spPStep K) [] := by
  have mL_Step := metLStep (P := P) (w := w) (base := base) T
  refine mkMet (k := 22) T.cls_Plain T.me_Plain_step T.fP_Step scP_Step (fun _ _ _ _ _ _ us hl => match us, hl with | [_, _], _ => rfl) (fun vs H Q E h => ?_) (fun cdv A outer s H vs Q E hr h => ?_)
  · obtain ⟨mv, kv, m, a, S, h, rfl, _⟩ := h
    rfl
  obtain ⟨mv, kv, m, a, S, h, rfl, ho, ok, so, hm, bd, q⟩ := h
  have hu := hu_of hr
  refine ⟨_, PSs.nox (pss_one (ps_ret (C8.pe_mt0 mL_Step hr (by omega) (pe_dget hu (pe_fld (pv 0) rfl) (pv 1) (fun _ _ => rfl))))), ?_⟩
  have L := ho.lone h hm
  have dg : DGet H a.hd (.str h.nm) (some (.ref (a.A h.nm).p)) := hdD_get ok hm ▸ DGet.k (k := Sum.inr h.nm) ho.hd
  have lnA : Lines H (ciOf m a.L h.nm ++ coOf m a.L h.nm) S.q := fun y hy => by
    obtain ⟨c, hc, rfl, _⟩ := adj_mem y hy
    exact ho.lines _ (List.mem_map_of_mem (f := fun c : Ch => (c.nm, a.L c.nm)) hc)
  refine ⟨_, rfl, a.p, PC K, a.dx, _, _, rfl, ho.ob, T.cls_Plain, T.no_Plain_hands, pf_hands, _, rfl, a.hd, _, rfl, dg, (a.A h.nm).p, (a.A h.nm).dx, _, rfl, L.ob, lf_no _ (by decide +kernel), ?_⟩
  refine ⟨kv, a.A h.nm, ciOf m a.L h.nm, coOf m a.L h.nm, S.hs h.nm, m.ks, m.cs, h, S.q, rfl, L, ho.ks, ok.ks, ok.hd h hm, so.hs h hm, lnA, ho.adr ok hm, fun c hc e => ⟨_, List.mem_map_of_mem (f := fun c : Ch => (c.nm, a.L c.nm)) (List.mem_filter.mpr ⟨hc, decide_eq_true e⟩)⟩,
    fun c hc e => ⟨_, List.mem_map_of_mem (f := fun c : Ch => (c.nm, a.L c.nm)) (List.mem_filter.mpr ⟨hc, decide_eq_true e⟩)⟩, bd.1 h hm, bd.2, fun e H' s => ?_, fun hs' q' H' e b L' ln' => ?_⟩
  · have es : stepH m h.nm S = (false, S) := by
      unfold stepH
      rw [handOf_mem ok hm]
      show (match stepA m.ks h.rows (S.hs h.nm) S.q with | none => (false, S) | some (hs', q') => (true, (⟨fun n => if n = h.nm then hs' else S.hs n, q'⟩ : St))) = _
      rw [e]
    have := q H' (.same s)
    rw [es] at this
    exact this (ho.same s)
  · have es : stepH m h.nm S = (true, ⟨fun n => if n = h.nm then hs' else S.hs n, q'⟩) := by
      unfold stepH
      rw [handOf_mem ok hm]
      show (match stepA m.ks h.rows (S.hs h.nm) S.q with | none => (false, S) | some (hs', q') => (true, (⟨fun n => if n = h.nm then hs' else S.hs n, q'⟩ : St))) = _
      rw [e]
    have sk := stepA_ok ok.ks ok.cn (ok.hd h hm) (so.hs h hm) so.q e
    obtain ⟨b2, h2⟩ := ho.step ok hm b L' ln' sk.off
    have := q H' b2
    rw [es] at this
    exact this h2
def spPStand (K : PySem.W.Frag) : Sp := fun vs H Q _ => ∃ (mv kv : V) (m : Make) (a : PA) (S : St) (h : Hd), vs = [.ref a.p, .str h.nm] ∧ HouseAt K H mv kv m a S ∧ MOk m ∧ h ∈ m.hs ∧
  ∀ (t d : Addr) (kvs : List (Key × V)) (H' : Hp), Same H H' → H t = none → H d = none → H' t = some (.tup [.int ((S.hs h.nm).at_ : Int), .ref d]) → H' d = some (.dK kvs) → Bx H' kvs (S.hs h.nm).held → Q (.ref t) H'
theorem metPStand (T : Txt K mg) : C8.Met P w K mg base 2 (PC K) "stand" (spPStand K) [] := by
  have mL_Stand := metLStand (P := P) (w := w) (base := base) T
  refine mkMet (k := 1) T.cls_Plain T.me_Plain_stand T.fP_Stand scP_Stand (fun _ _ _ _ _ _ us hl => match us, hl with | [_, _], _ => rfl) (fun vs H Q E h => ?_) (fun cdv A outer s H vs Q E hr h => ?_)
  · obtain ⟨mv, kv, m, a, S, h, rfl, _⟩ := h
    rfl
  obtain ⟨mv, kv, m, a, S, h, rfl, ho, ok, hm, q⟩ := h
  have hu := hu_of hr
  have L := ho.lone h hm
  have dg : DGet H a.hd (.str h.nm) (some (.ref (a.A h.nm).p)) := hdD_get ok hm ▸ DGet.k (k := Sum.inr h.nm) ho.hd
  refine ⟨_, PSs.nox (pss_one (ps_ret (C8.pe_mt0 mL_Stand hr (by omega) (pe_dget hu (pe_fld (pv 0) rfl) (pv 1) (fun _ _ => rfl))))), ?_⟩
  exact ⟨_, rfl, a.p, PC K, a.dx, _, _, rfl, ho.ob, T.cls_Plain, T.no_Plain_hands, pf_hands, _, rfl, a.hd, _, rfl, dg, (a.A h.nm).p, (a.A h.nm).dx, _, rfl, L.ob, lf_no _ (by decide +kernel), kv, _, _, _, _, _, rfl, L, q⟩
def spPTold (K : PySem.W.Frag) : Sp := fun vs H Q _ => ∃ (mv kv : V) (m : Make) (a : PA) (S : St) (h : Hd), vs = [.ref a.p, .str h.nm] ∧ HouseAt K H mv kv m a S ∧ MOk m ∧ h ∈ m.hs ∧
  ∀ (l : Addr) (H' : Hp), Same H H' → H l = none → H' l = some (.lst ((S.hs h.nm).notes.map V.int)) → Q (.ref l) H'
theorem metPTold (T : Txt K mg) : C8.Met P w K mg base 2 (PC K) "told" (spPTold K) [] := by
  have mL_Told := metLTold (P := P) (w := w) (base := base) T
  refine mkMet (k := 1) T.cls_Plain T.me_Plain_told T.fP_Told scP_Told (fun _ _ _ _ _ _ us hl => match us, hl with | [_, _], _ => rfl) (fun vs H Q E h => ?_) (fun cdv A outer s H vs Q E hr h => ?_)
  · obtain ⟨mv, kv, m, a, S, h, rfl, _⟩ := h
    rfl
  obtain ⟨mv, kv, m, a, S, h, rfl, ho, ok, hm, q⟩ := h
  have hu := hu_of hr
  have L := ho.lone h hm
  have dg : DGet H a.hd (.str h.nm) (some (.ref (a.A h.nm).p)) := hdD_get ok hm ▸ DGet.k (k := Sum.inr h.nm) ho.hd
  refine ⟨_, PSs.nox (pss_one (ps_ret (C8.pe_mt0 mL_Told hr (by omega) (pe_dget hu (pe_fld (pv 0) rfl) (pv 1) (fun _ _ => rfl))))), ?_⟩
  exact ⟨_, rfl, a.p, PC K, a.dx, _, _, rfl, ho.ob, T.cls_Plain, T.no_Plain_hands, pf_hands, _, rfl, a.hd, _, rfl, dg, (a.A h.nm).p, (a.A h.nm).dx, _, rfl, L.ob, lf_no _ (by decide +kernel), kv, _, _, _, _, _, rfl, L, q⟩
def spPCount (K : PySem.W.Frag) : Sp := fun vs H Q _ => ∃ (mv kv : V) (m : Make) (a : PA) (S : St) (h : Hd), vs = [.ref a.p, .str h.nm] ∧ HouseAt K H mv kv m a S ∧ MOk m ∧ h ∈ m.hs ∧ Q (.int (S.hs h.nm).done) H
theorem metPCount (T : Txt K mg) : C8.Met P w K mg base 2 (PC K) "count" (spPCount K) [] := by
  have mL_Count := metLCount (P := P) (w := w) (base := base) T
  refine mkMet (k := 1) T.cls_Plain T.me_Plain_count T.fP_Count scP_Count (fun _ _ _ _ _ _ us hl => match us, hl with | [_, _], _ => rfl) (fun vs H Q E h => ?_) (fun cdv A outer s H vs Q E hr h => ?_)
  · obtain ⟨mv, kv, m, a, S, h, rfl, _⟩ := h
    rfl
  obtain ⟨mv, kv, m, a, S, h, rfl, ho, ok, hm, q⟩ := h
  have hu := hu_of hr
  have L := ho.lone h hm
  have dg : DGet H a.hd (.str h.nm) (some (.ref (a.A h.nm).p)) := hdD_get ok hm ▸ DGet.k (k := Sum.inr h.nm) ho.hd
  refine ⟨_, PSs.nox (pss_one (ps_ret (C8.pe_mt0 mL_Count hr (by omega) (pe_dget hu (pe_fld (pv 0) rfl) (pv 1) (fun _ _ => rfl))))), ?_⟩
  exact ⟨_, rfl, a.p, PC K, a.dx, _, _, rfl, ho.ob, T.cls_Plain, T.no_Plain_hands, pf_hands, _, rfl, a.hd, _, rfl, dg, (a.A h.nm).p, (a.A h.nm).dx, _, rfl, L.ob, lf_no _ (by decide +kernel), kv, _, _, _, _, _, rfl, L, q⟩
def spPLetters (K : PySem.W.Frag) : Sp := fun vs H Q _ => ∃ (mv kv : V) (m : Make) (a : PA) (S : St) (c : Ch), vs = [.ref a.p, .str c.nm] ∧ HouseAt K H mv kv m a S ∧ MOk m ∧ c ∈ m.cs ∧
  ∀ (l : Addr) (xs : List V) (H' : Hp), Same H H' → H l = none → H' l = some (.lst xs) → Ims H' xs (S.q c.nm) → Q (.ref l) H'
theorem metPLetters (T : Txt K mg) : C8.Met P w K mg base 1 (PC K) "letters" (spPLetters K) [] := by
  refine mkMet T.cls_Plain T.me_Plain_letters T.fP_Letters scP_Letters (fun _ _ _ _ _ _ us hl => match us, hl with | [_, _], _ => rfl) (fun vs H Q E h => ?_) (fun cdv A outer s H vs Q E hr h => ?_)
  · obtain ⟨mv, kv, m, a, S, h, rfl, _⟩ := h
    rfl
  obtain ⟨mv, kv, m, a, S, c, rfl, ho, ok, hm, q⟩ := h
  have hu := hu_of hr
  have hmm := List.mem_map_of_mem (f := fun c : Ch => (c.nm, a.L c.nm)) hm
  obtain ⟨xs, hx, ix⟩ := ho.lines _ hmm
  have gv : valV (lnD (lnOf m a.L)) (Sum.inr c.nm : Key) = some (.ref (a.L c.nm)) := lnD_get (ls := lnOf m a.L) (x := (c.nm, a.L c.nm)) (by rw [lnOf, List.map_map]; exact ok.cn) hmm
  have dg : DGet H a.ln (.str c.nm) (some (.ref (a.L c.nm))) := gv ▸ DGet.k (k := Sum.inr c.nm) ho.ln
  refine ⟨_, PSs.nox (pss_one (ps_ret (pe_callTy call_list_of (by rfl) T.free_list (by decide +kernel) (pa_cons (pe_dget hu (pe_fld (pv 0) rfl) (pv 1) (fun _ _ => rfl)) pa_nil)))), ?_⟩
  refine ⟨_, rfl, a.p, PC K, a.dx, _, _, rfl, ho.ob, T.cls_Plain, T.no_Plain_lines, pf_lines, _, rfl, a.ln, _, rfl, dg, a.L c.nm, xs, rfl, .inl (SqL.of hx), fun l nl => ?_⟩
  have s1 : Same H (upd H l (.lst xs)) := same_new nl _
  exact q l xs _ s1 nl upd_same (ix.mono (ts_same s1))
end
end Sw
set_option Elab.async false
set_option linter.all false
set_option maxRecDepth 100000
set_option maxHeartbeats 4000000
/-! weave, still. -/
namespace Sw
open PySem PySem.Spec PyProof.Rows L2
theorem strNT {a b : Str} {A B : Prop} (h : a ≠ b) (x : A) : if (!decide (V.str a = V.str b)) = true then A else B := by
  rw [if_pos (by rw [decide_eq_false (fun z => h (V.str.inj z))]; rfl)]
  exact x
theorem strNF {a b : Str} {A B : Prop} (h : a = b) (x : B) : if (!decide (V.str a = V.str b)) = true then A else B := by
  rw [if_neg (by rw [decide_eq_true (by rw [h])]; exact Bool.false_ne_true)]
  exact x
def weaveH (m : Make) (l : List Str) (S : St) : St := l.foldl (fun S h => (stepH m h S).2) S
theorem weaveH_snoc {m : Make} {l : List Str} {h : Str} {S : St} : weaveH m (l ++ [h]) S = (stepH m h (weaveH m l S)).2 := by rw [weaveH, List.foldl_append]; rfl
theorem weaveH_ok {m : Make} (ok : MOk m) : ∀ {l : List Str} {S : St}, SOk m S → SOk m (weaveH m l S)
  | [], _, so => so
  | h :: l, S, so => weaveH_ok ok (l := l) (stepH_ok ok so h)
theorem weaveH_bnd {m : Make} (ok : MOk m) : ∀ {l : List Str} {S : St} {n : Nat}, SOk m S → Bnd m n S → Bnd m (n + l.length) (weaveH m l S)
  | [], _, _, _, b => b
  | h :: l, S, n, so, b => by
    have := weaveH_bnd ok (l := l) (stepH_ok ok so h) (stepH_bnd ok so b h)
    exact this.mono (by rw [List.length_cons]; omega)
def stillA (m : Make) (S : St) : Bool := m.hs.all fun h => waitA h.rows (S.hs h.nm) S.q
section
variable {P : Program} {w : World} {K : PySem.W.Frag} {mg : Str → Option Value} {base : Heap}
def spPWeave (K : PySem.W.Frag) : Sp := fun vs H Q _ => ∃ (mv kv : V) (m : Make) (a : PA) (S : St) (l : Addr) (ns : List Str) (n : Nat), vs = [.ref a.p, .ref l] ∧ HouseAt K H mv kv m a S ∧ MOk m ∧ SOk m S ∧ H l = some (.lst (ns.map V.str)) ∧ l ∉ a.mut m ∧ (∀ x ∈ ns, ∃ h ∈ m.hs, h.nm = x) ∧ Bnd m n S ∧ n + ns.length ≤ 1000 ∧
  ∀ (i : Int) (H' : Hp), But (a.mut m) H H' → HouseAt K H' mv kv m a (weaveH m ns S) → Q (.int i) H'
theorem metPWeave (T : Txt K mg) : C8.Met P w K mg base 24 (PC K) "weave" (spPWeave K) [] := by
  have mP_Step := metPStep (P := P) (w := w) (base := base) T
  refine mkMet (k := 23) T.cls_Plain T.me_Plain_weave T.fP_Weave scP_Weave (fun _ _ _ _ _ _ us hl => match us, hl with | [_, _], _ => rfl) (fun vs H Q E h => ?_) (fun cdv A outer s H vs Q E hr h => ?_)
  · obtain ⟨mv, kv, m, a, S, l, ns, n, rfl, _⟩ := h
    rfl
  obtain ⟨mv, kv, m, a, S, l, ns, n, rfl, ho, ok, so, hl, lm, hns, bd, nb, q⟩ := h
  refine ⟨_, PSs.nox (pss_one (ps_ret (pe_callB (cr_sum rfl) (by rfl) T.free_sum (by decide +kernel) (pa_cons (pe_lc (own := [("h", 2)])  rfl scP_Weave.nd (pi_list (pv 1)) (blkOk_by (N := nP_Weave) (sc := defScope sP_Weave) (by decide +kernel)) (fun _ _ _ _ _ => pg_name (i := 2) scP_Weave.nd rfl (Or.inl rfl)) (fun _ _ _ _ _ => pts_nil) (fun _ _ _ _ _ => pe_callTy call_int1 (by rfl) T.free_int (by decide +kernel) (pa_cons (C8.pe_mt mP_Step hr (by omega) (pv 0) (pa_cons (pv 2) pa_nil)) pa_nil))) pa_nil)))), ?_⟩
  refine ⟨_, rfl, l, rfl, ⟨_, SqL.of hl⟩, fun D nD => ?_⟩
  have Dm : D ∉ a.mut m := fun z => ho.taken D (mut_all D z) nD
  refine lc_it (walk_list (K := K) (a := l) (xs := ns.map V.str)) (fun i H' => But (a.mut m) H H' ∧ HouseAt K H' mv kv m a (weaveH m (ns.take i) S) ∧ ∃ acc : List Int, H' D = some (.lst (acc.map V.int)) ∧ acc.length = i)
    ⟨.same (same_new nD _), ho.same (same_new nD _), [], upd_same, rfl⟩ (fun i H' _ hP => SqL.of (hP.1 _ _ hl lm)) ?_ ?_
  · rintro i y H1 H2 hi ⟨b1, h1, acc, hD, al⟩ ⟨rfl, hy⟩
    rw [List.length_map] at hi
    rw [List.getElem?_map] at hy
    obtain ⟨z, hz, rfl⟩ := Option.map_eq_some_iff.mp hy
    obtain ⟨h, hm, rfl⟩ := hns z (List.mem_of_getElem? hz)
    have so1 : SOk m (weaveH m (ns.take i) S) := weaveH_ok ok so
    have bd1 := (weaveH_bnd ok (l := ns.take i) so bd).mono (k := 10000) (by rw [List.length_take]; omega)
    have tk : ns.take (i + 1) = ns.take i ++ [h.nm] := by rw [List.take_succ, hz]; rfl
    refine ⟨rfl, lcYes ?_⟩
    refine ⟨_, rfl, a.p, a.dx, _, rfl, h1.ob, pf_no _ (by decide +kernel), _, rfl, mv, kv, m, a, _, h, rfl, h1, ok, so1, hm, bd1, fun H3 b3 h3 => .inr ⟨_, rfl, acc.map V.int, b3 _ _ hD Dm, Nat.lt_of_le_of_lt (by rw [List.length_map, al]; omega : (acc.map V.int).length ≤ 1000) (by decide), ?_⟩⟩
    have hD3 := b3 _ _ hD Dm
    refine ⟨fun b o e n => ?_, ?_, acc ++ [if (stepH m h.nm (weaveH m (ns.take i) S)).1 = true then 1 else 0], by rw [upd_same, List.map_append]; rfl, by rw [List.length_append, al]; rfl⟩
    · rw [upd_ne (fun z => by rw [z, nD] at e; cases e)]
      exact b3 _ _ (b1 b o e n) n
    · rw [tk, weaveH_snoc]
      refine h3.keep (ts_lst hD3) fun b hb o e => ?_
      rw [upd_ne (fun z => ho.taken b hb (by rw [z]; exact nD))]
      exact e
  · rintro H1 ⟨b1, h1, acc, hD, al⟩
    rw [List.take_of_length_le (by rw [List.length_map]; exact Nat.le_refl _)] at h1
    exact ⟨D, acc, rfl, SqL.of hD, q _ H1 b1 h1⟩
def spPStill (K : PySem.W.Frag) : Sp := fun vs H Q _ => ∃ (mv kv : V) (m : Make) (a : PA) (S : St), vs = [.ref a.p] ∧ HouseAt K H mv kv m a S ∧ MOk m ∧ SOk m S ∧ ∀ H', Same H H' → Q (.bl (stillA m S)) H'
local macro_rules | `(tactic| walk_at "tst") => `(tactic| refine ⟨_, rfl, _, _, _, _, rfl, rfl, SqT.of (by assumption), at0, rfl, _, rfl, ?_⟩)
theorem metPStill (T : Txt K mg) : C8.Met P w K mg base 1 (PC K) "still" (spPStill K) [] := by
  refine mkMet T.cls_Plain T.me_Plain_still T.fP_Still scP_Still (fun _ _ _ _ _ _ us hl => match us, hl with | [_], _ => rfl) (fun vs H Q E h => ?_) (fun cdv A outer s H vs Q E hr h => ?_)
  · obtain ⟨mv, kv, m, a, S, rfl, _⟩ := h
    rfl
  obtain ⟨mv, kv, m, a, S, rfl, ho, ok, so, q⟩ := h
  have hu := hu_of hr
  refine ⟨_, PSs.nox (pss_cons (ps_lock (ps_for PassesOwn.never rfl (pi_values (pe_fld (pv 0) rfl)) (pg_name (i := 1) scP_Still.nd rfl (Or.inl rfl))
        (pss_cons (ps_set (i := 2) scP_Still.nd rfl (Or.inl rfl) (pe_ix (ix_tupK (K := K) rfl) (pe_fld (pv 1) rfl) (pe_fld (pv 1) rfl) (fun _ _ => rfl)))
          (pss_one (ps_if (PW.pt (pw_and (pt_cmpR op_ne (pe_ix (ix_tupK (K := K) rfl) (pv 2) pe_int (fun _ _ => rfl)) pe_str (nomark _)) (pw_and1 (PW.pt (pw_or (pt_cmpR op_ne (pe_ix (ix_tupK (K := K) rfl) (pv 2) pe_int (fun _ _ => rfl)) pe_str (nomark _)) (pw_or1 (pt_cmpR (op_neE hr.units0) (pe_dget hu (pe_fld (pv 1) rfl) (pe_ix (ix_tupK (K := K) rfl) (pv 2) pe_int (fun _ _ => rfl)) (fun _ _ => rfl)) (pe_lst pa_nil) (nomark _)))))))) (pss_one (ps_ret pe_bl)) pss_nil)))))
      (pss_one (ps_ret pe_bl))), ?_⟩
  refine ⟨a.hd, _, ho.hd, trivial, fun od => ?_⟩
  have pne : a.p ≠ a.hd := ne_of ho.ob ho.hd (fun z => by cases z)
  refine ⟨_, rfl, a.p, PC K, a.dx, _, _, rfl, (by rw [upd_ne pne]; exact ho.ob), T.cls_Plain, T.no_Plain_hands, pf_hands, a.hd, od, _, rfl, upd_same,
    for_it (walk_values (d := a.hd) (o := od) (kvs := hdD m.hs a.A)) (fun i σ H' => (∃ c1 c2, σ = [some (.ref a.p), c1, c2]) ∧ (∀ b o, H b = some o → b ≠ a.hd → H' b = some o) ∧ H' a.hd = some (.frz od (.dK (hdD m.hs a.A))) ∧ ∀ j h, j < i → m.hs[j]? = some h → waitA h.rows (S.hs h.nm) S.q = true)
    ⟨⟨_, _, rfl⟩, fun b o e n => by rw [upd_ne n]; exact e, upd_same, fun j h hj => absurd hj (Nat.not_lt_zero j)⟩ (fun i σ H' _ hP => hP.2.2.1) ?_ ?_⟩
  · rintro i x σ H1 H2 hi ⟨⟨c1, c2, rfl⟩, kp, hfz, hw⟩ ⟨rfl, k, hx⟩
    rw [hdD, List.getElem?_map] at hx
    obtain ⟨h, hh, e⟩ := Option.map_eq_some_iff.mp hx
    injection e with e1 e2
    subst e2
    have hm : h ∈ m.hs := List.mem_of_getElem? hh
    have L0 := ho.lone h hm
    have ts : TS H H2 := fun b us e => kp _ _ e (fun z => by rw [z, ho.hd] at e; cases e)
    obtain ⟨p10a, _, _⟩ := ho.ap.p10 h hm
    obtain ⟨p11a, p11b⟩ := ho.ap.p11 h hm
    have L : LoneAt K H2 kv (a.A h.nm) h.rows (ciOf m a.L h.nm) (coOf m a.L h.nm) (S.hs h.nm) := by
      obtain ⟨ls, l1, _⟩ := L0.la
      obtain ⟨kvs, d1, _⟩ := L0.hd
      refine L0.keep ts fun b hb o e => kp _ _ e fun z => ?_
      rcases hb with rfl | rfl | rfl | rfl | rfl | rfl
      · rw [z, ho.hd] at e; cases e; have := L0.ob; rw [z, ho.hd] at this; cases this
      · rw [z, ho.hd] at l1; cases l1
      · exact p10a z.symm
      · exact p11a z.symm
      · exact p11b z.symm
      · have := L0.nt; rw [z, ho.hd] at this; cases this
    obtain ⟨ra, xs, e, hra, ixs⟩ := L.rw_.tupE
    cases e
    have hok := ok.hd h hm
    have hs0 := so.hs h hm
    obtain ⟨r, hr0⟩ : ∃ r, h.rows[(S.hs h.nm).at_]? = some r := ⟨_, List.getElem?_eq_getElem hs0.at_⟩
    have rok := hok.rows.2.2 _ _ hr0
    have hrD := getD_of hr0
    obtain ⟨v, hv, iv⟩ := ixs.at hr0
    -- a hand that does a row
    have go : waitA h.rows (S.hs h.nm) S.q = false → ∀ H3, (∀ b o, H b = some o → b ≠ a.hd → H3 b = some o) → H3 a.hd = some (.frz od (.dK (hdD m.hs a.A))) → (H3 a.hd = some (.frz od (.dK (hdD m.hs a.A))) ∧ Q (.bl false) (upd H3 a.hd (.dK (hdD m.hs a.A)))) := fun e H3 k3 f3 => by
      refine ⟨f3, ?_⟩
      have : stillA m S = false := by
        unfold stillA
        rw [List.all_eq_false]
        exact ⟨h, hm, by rw [e]; exact Bool.false_ne_true⟩
      rw [← this]
      refine q _ fun b o e => ?_
      by_cases c : b = a.hd
      · rw [c, ho.hd] at e
        rw [c, upd_same]
        exact e
      · rw [upd_ne c]
        exact k3 _ _ e c
    -- one that doesn't
    have stay : waitA h.rows (S.hs h.nm) S.q = true → ∀ j h', j < i + 1 → m.hs[j]? = some h' → waitA h'.rows (S.hs h'.nm) S.q = true := fun e j h' hj e2 => by
      by_cases c : j = i
      · subst c
        rw [hh] at e2
        cases e2
        exact e
      · exact hw j h' (by omega) e2
    refine ⟨_, rfl, (a.A h.nm).p, LC K, (a.A h.nm).dx, _, _, rfl, L.ob, T.cls_Lone, T.no_Lone_rows, lf_rows, _, rfl, (a.A h.nm).p, LC K, (a.A h.nm).dx, _, _, rfl, L.ob, T.cls_Lone, T.no_Lone_at, lf_at, _, _, _, _, rfl, rfl, SqT.of hra, atI_nat hv, ?_⟩
    obtain ⟨wd, rest, er, _⟩ := rok.sh
    have wr : wrd (h.rows.getD (S.hs h.nm).at_ .none) = wd := by rw [hrD, er]; rfl
    by_cases ne : wd = "end"
    · have wt : waitA h.rows (S.hs h.nm) S.q = true := by
        unfold waitA
        rw [wr, decide_eq_true ne]
        rfl
      rw [er] at iv
      obtain ⟨b, v1, us, rfl, hb, i1, _⟩ := iv.tHead
      cases i1.strE
      walk_at "tst"
      refine strNF ne ?_
      refine iteF ?_
      exact ⟨⟨_, _, rfl⟩, kp, hfz, stay wt⟩
    by_cases nt : wd = "take"
    · subst nt
      cases rok with
      | @take l x c hc hto hbx hnx =>
        obtain ⟨b, v1, v2, v3, v4, rfl, hb, i1, i2, i3, i4⟩ := iv.t4
        cases i1.strE
        cases i3.strE
        have mem := List.mem_map_of_mem (f := fun c : Ch => (c.nm, a.L c.nm)) hc
        have memci : (c.nm, a.L c.nm) ∈ ciOf m a.L h.nm := List.mem_map_of_mem (f := fun c : Ch => (c.nm, a.L c.nm)) (List.mem_filter.mpr ⟨hc, decide_eq_true hto⟩)
        obtain ⟨ys, hys0, iys⟩ := ho.lines _ mem
        have hys00 : H (a.L c.nm) = some (.lst ys) := hys0
        have hys : H2 (a.L c.nm) = some (.lst ys) := kp _ _ hys00 (fun z => by rw [z, ho.hd] at hys00; cases hys00)
        have dg : DGet H2 (a.A h.nm).cd (.str c.nm) (some (.ref (a.L c.nm))) := lnD_get (x := (c.nm, a.L c.nm)) (ciOf_nd ok) memci ▸ DGet.k (k := Sum.inr c.nm) L.cd
        walk_at "tst"
        refine strNT (by decide +kernel) ?_
        walk_at "tst"
        refine strNF rfl ?_
        refine ⟨_, rfl, (a.A h.nm).p, LC K, (a.A h.nm).dx, _, _, rfl, L.ob, T.cls_Lone, T.no_Lone_coming, lf_coming, _, rfl, _, _, _, _, rfl, rfl, SqT.of hb, at2, (a.A h.nm).cd, .ref (a.L c.nm), rfl, dg, sz, fun p np => ?_⟩
        have s1 : Same H2 (upd H2 p (.lst [])) := same_new np _
        have k1 : ∀ b o, H b = some o → b ≠ a.hd → upd H2 p (.lst []) b = some o := fun b o e n => s1 _ _ (kp b o e n)
        have f1 := s1 _ _ hfz
        have wq : waitA h.rows (S.hs h.nm) S.q = (S.q c.nm).isEmpty := by
          unfold waitA
          rw [hrD]
          show (decide (("take" : Str) = "end") || (decide (("take" : Str) = "take") && (S.q c.nm).isEmpty)) = _
          rw [decide_eq_false (by decide +kernel), decide_eq_true rfl]
          rfl
        refine ⟨a.L c.nm, p, ys, rfl, rfl, SqL.of (s1 _ _ hys), SqL.of upd_same, _, rfl, ?_⟩
        have iys' : Ims H ys (S.q c.nm) := iys
        cases hq : S.q c.nm with
        | nil =>
          rw [hq] at iys' wq
          cases iys'
          refine iteF ?_
          exact ⟨⟨_, _, rfl⟩, k1, f1, stay wq⟩
        | cons d ds =>
          rw [hq] at iys' wq
          obtain ⟨y, us, rfl, _, _⟩ := iys'.tail
          refine iteT ?_
          exact go wq _ k1 f1
      | _ => injection er with z; injection z with z _; injection z with z; exact absurd z (by decide +kernel)
    · have wt : waitA h.rows (S.hs h.nm) S.q = false := by
        unfold waitA
        rw [wr, decide_eq_false ne, decide_eq_false nt]
        rfl
      rw [er] at iv
      obtain ⟨b, v1, us, rfl, hb, i1, _⟩ := iv.tHead
      cases i1.strE
      walk_at "tst"
      refine strNT ne ?_
      walk_at "tst"
      refine strNT nt ?_
      refine iteT ?_
      exact go wt _ kp hfz
  · rintro σ H1 ⟨⟨c1, c2, rfl⟩, kp, hfz, hw⟩
    refine ⟨hfz, ?_⟩
    have : stillA m S = true := by
      unfold stillA
      rw [List.all_eq_true]
      intro h hm
      obtain ⟨j, hj, ej⟩ := List.mem_iff_getElem.mp hm
      exact hw j h (by rw [hdD, List.length_map]; exact hj) (by rw [List.getElem?_eq_getElem hj, ej])
    show Q (.bl true) (upd H1 a.hd (.dK (hdD m.hs a.A)))
    rw [← this]
    refine q _ fun b o e => ?_
    by_cases c : b = a.hd
    · rw [c, ho.hd] at e
      rw [c, upd_same]
      exact e
    · rw [upd_ne c]
      exact kp _ _ e c
end
end Sw
set_option Elab.async false
set_option linter.all false
set_option maxRecDepth 100000
set_option maxHeartbeats 4000000
/-! Plain: share. -/
namespace Sw
open PySem PySem.Spec PyProof.Rows L2
section
variable {mv : V} {hd ln p dx : Addr}
def pfs1 (mv : V) : List (Str × V) := [("make", mv)]
def pfs2 (mv : V) (hd : Addr) : List (Str × V) := [("make", mv), ("hands", .ref hd)]
theorem pq1 : putF "make" mv [] = pfs1 mv := rfl
theorem pq2 : putF "hands" (.ref hd) (pfs1 mv) = pfs2 mv hd := by kernel_rfl
theorem pq3 : putF "lines" (.ref ln) (pfs2 mv hd) = plFs mv hd ln := by kernel_rfl
theorem p2_hands : (pfs2 mv hd).lookup ("hands" : Str) = some (V.ref hd) := by kernel_rfl
theorem p2_no (m : Str) (h : (["make", "hands"] : List Str).contains m = false) : (pfs2 mv hd).lookup m = none := by
  have h2 : m ∉ (pfs2 mv hd).map (·.1) := fun hm => by
    have : (["make", "hands"] : List Str).contains m = true := List.contains_iff_mem.mpr hm
    rw [h] at this
    cases this
  exact List.lookup_eq_none_iff.mpr fun p hp => by
    have : m ≠ p.1 := fun e => h2 (by rw [e]; exact List.mem_map_of_mem (f := (·.1)) hp)
    simpa using this
end
theorem putK_in {l : List Ch} {f : Str → Addr} {n : Str} {x : Addr} (h : n ∈ l.map (·.nm)) : putK (lnD (l.map fun c => (c.nm, f c.nm))) (Sum.inr n : Key) (.ref x) = lnD (l.map fun c => (c.nm, if c.nm = n then x else f c.nm)) := by
  unfold putK
  rw [if_pos]
  · rw [lnD, lnD, List.map_map, List.map_map, List.map_map]
    refine List.map_congr_left fun c hc => ?_
    show (if (Sum.inr c.nm : Key) = Sum.inr n then ((Sum.inr c.nm : Key), V.ref x) else (Sum.inr c.nm, V.ref (f c.nm))) = (Sum.inr c.nm, V.ref (if c.nm = n then x else f c.nm))
    by_cases e : c.nm = n
    · rw [if_pos (congrArg Sum.inr e), if_pos e]
    · rw [if_neg (fun z => e (Sum.inr.inj z)), if_neg e]
  · rw [List.any_eq_true]
    obtain ⟨c, hc, e⟩ := List.mem_map.mp h
    refine ⟨((Sum.inr c.nm : Key), V.ref (f c.nm)), ?_, decide_eq_true (congrArg Sum.inr e)⟩
    rw [lnD, List.map_map]
    exact List.mem_map_of_mem (f := fun c : Ch => ((Sum.inr c.nm : Key), V.ref (f c.nm))) hc
/-- a house's hands, before the rows of letters are shared -/
structure Pre (K : PySem.W.Frag) (H : Hp) (mv kv : V) (m : Make) (p dx hd : Addr) (A : Str → LAd) (I O : Str → Addr) (S : St) : Prop where
  ob : H p = some (.ins (PC K) dx (pfs2 mv hd))
  hds : H hd = some (.dK (hdD m.hs A))
  im : Im H mv m.d
  ks : KsAt H kv m.ks
  lone : ∀ h ∈ m.hs, LoneAt K H kv (A h.nm) h.rows (ciOf m I h.nm) (coOf m O h.nm) (S.hs h.nm)
  lines : Lines H (lnOf m I) S.q
  ap : ∀ ln, H ln = none → Apart m ⟨p, dx, hd, ln, A, I⟩
  gd : ∀ h ∈ m.hs, ∀ k ∈ m.hs, (A h.nm).gd = (A k.nm).gd → h.nm = k.nm
  gc : ∀ h ∈ m.hs, ∀ k ∈ m.hs, (A h.nm).gd ≠ (A k.nm).cd
section
variable {P : Program} {w : World} {K : PySem.W.Frag} {mg : Str → Option Value} {base : Heap}
def spPShare (K : PySem.W.Frag) : Sp := fun vs H Q _ => ∃ (p dx hd : Addr) (mv kv : V) (m : Make) (A : Str → LAd) (I O : Str → Addr) (S : St), vs = [.ref p] ∧ Pre K H mv kv m p dx hd A I O S ∧ MOk m ∧
  ∀ (ln : Addr) (H' : Hp), H ln = none → But (p :: m.hs.map fun h => (A h.nm).gd) H H' → HouseAt K H' mv kv m ⟨p, dx, hd, ln, A, I⟩ S → Q .non H'
theorem metPShare (T : Txt K mg) : C8.Met P w K mg base 1 (PC K) "share" (spPShare K) [] := by
  refine mkMet (k := 0) T.cls_Plain T.me_Plain_share T.fP_Share scP_Share (fun _ _ _ _ _ _ us hl => match us, hl with | [_], _ => rfl) (fun vs H Q E h => ?_) (fun cdv A outer s H vs Q E hr h => ?_)
  · obtain ⟨p, dx, hd, mv, kv, m, A, I, O, S, rfl, _⟩ := h
    rfl
  obtain ⟨p, dx, hd, mv, kv, m, A, I, O, S, rfl, pre, ok, q⟩ := h
  have hu := hu_of hr
  have cls := T.cls_Plain
  refine ⟨_, PSs.nox (pss_cons (ps_fld (pv 0) pe_dnewK rfl)
      (pss_one (ps_for PassesOwn.never rfl (pi_tup (pe_ix (ix_tupK (K := K) rfl) (pe_fld (pv 0) rfl) pe_int (fun _ _ => rfl))) (pg_tupK (K := K) (n := 4) rfl rfl (pgs_cons (pg_name (i := 1) scP_Share.nd rfl (Or.inl rfl)) (pgs_cons (pg_name (i := 2) scP_Share.nd rfl (Or.inl rfl)) (pgs_cons (pg_name (i := 3) scP_Share.nd rfl (Or.inl rfl)) (pgs_cons (pg_name (i := 4) scP_Share.nd rfl (Or.inl rfl)) pgs_nil)))))
        (pss_cons (ps_set (i := 5) scP_Share.nd rfl (Or.inl rfl) (pe_dget hu (pe_fld (pe_dget hu (pe_fld (pv 0) rfl) (pv 3) (fun _ _ => rfl)) rfl) (pv 1) (fun _ _ => rfl)))
          (pss_cons (ps_dput hu (pe_fld (pv 0) rfl) (pv 1) (pv 5) rfl)
          (pss_one (ps_dput hu (pe_fld (pe_dget hu (pe_fld (pv 0) rfl) (pv 2) (fun _ _ => rfl)) rfl) (pv 1) (pv 5) rfl))))))), ?_⟩
  intro ln nln
  have ap := pre.ap ln nln
  have pln : p ≠ ln := fun z => by have := pre.ob; rw [z, nln] at this; cases this
  have s0 : Same H (upd H ln (.dK [])) := same_new nln _
  refine ⟨_, rfl, p, PC K, dx, _, rfl, s0 _ _ pre.ob, cls, T.no_Plain_lines, (by show 2 < 1000; decide), ?_⟩
  rw [pq3]
  have o1 : upd (upd H ln (.dK [])) p (.ins (PC K) dx (plFs mv hd ln)) p = some (.ins (PC K) dx (plFs mv hd ln)) := upd_same
  have k1 : ∀ b o, H b = some o → b ≠ p → upd (upd H ln (.dK [])) p (.ins (PC K) dx (plFs mv hd ln)) b = some o := fun b o e n => by rw [upd_ne n]; exact s0 _ _ e
  have l1 : upd (upd H ln (.dK [])) p (.ins (PC K) dx (plFs mv hd ln)) ln = some (.dK []) := by rw [upd_ne (Ne.symm pln)]; exact upd_same
  generalize upd (upd H ln (.dK [])) p (.ins (PC K) dx (plFs mv hd ln)) = H1 at o1 k1 l1
  have ts1 : TS H H1 := fun b us e => k1 _ _ e (fun z => by rw [z, pre.ob] at e; cases e)
  obtain ⟨ma, v1, v2, v3, rfl, hma, i1, i2, i3⟩ := id (pre.im.mono ts1).t3
  obtain ⟨ca, zs, rfl, hca, izs⟩ := i2.tupE
  -- the places
  have gk : ∀ h ∈ m.hs, H1 (A h.nm).gd = some (.dK (lnD (coOf m O h.nm))) := fun h hm => k1 _ _ (pre.lone h hm).gd (fun z => by have := (pre.lone h hm).gd; rw [z, pre.ob] at this; cases this)
  have gln : ∀ h ∈ m.hs, (A h.nm).gd ≠ ln := fun h hm z => by have := (pre.lone h hm).gd; rw [z, nln] at this; cases this
  have stay : ∀ (H' : Hp), (∀ b o, H1 b = some o → b ≠ ln → (∀ h ∈ m.hs, b ≠ (A h.nm).gd) → H' b = some o) → ∀ b o, H1 b = some o → (∀ y, o ≠ .dK y) → H' b = some o := fun H' F b o e n =>
    F b o e (fun z => by rw [z, l1] at e; cases e; exact n _ rfl) fun h hm z => by rw [z, gk h hm] at e; cases e; exact n _ rfl
  let mix : Nat → Str → Addr := fun i n => if n ∈ (m.cs.take i).map (·.nm) then I n else O n
  refine ⟨_, rfl, p, PC K, dx, _, _, rfl, o1, cls, T.no_Plain_make, pf_make, _, _, _, _, rfl, rfl, SqT.of hma, at1, ca, rfl, ⟨_, SqT.of hca⟩,
    for_it (walk_tup (K := K) (a := ca) (xs := zs)) (fun i σ H' => (∃ c1 c2 c3 c4 c5, σ = [some (.ref p), c1, c2, c3, c4, c5]) ∧ (∀ b o, H1 b = some o → b ≠ ln → (∀ h ∈ m.hs, b ≠ (A h.nm).gd) → H' b = some o) ∧
      H' ln = some (.dK (lnD ((m.cs.take i).map fun c => (c.nm, I c.nm)))) ∧ ∀ h ∈ m.hs, H' (A h.nm).gd = some (.dK (lnD (coOf m (mix i) h.nm))))
    ⟨⟨_, _, _, _, _, rfl⟩, fun b o e _ _ => e, l1, fun h hm => ?_⟩ (fun i σ H' _ hP => SqT.of (stay H' hP.2.1 _ _ hca fun _ z => by cases z)) ?_ ?_⟩
  · have e0 : mix 0 = O := funext fun n => if_neg (by rw [List.take_zero]; exact List.not_mem_nil)
    show _ = some (HO.dK (lnD (coOf m (mix 0) h.nm)))
    rw [e0]
    exact gk h hm
  · rintro i y σ H2 H3 hi ⟨⟨c1, c2, c3, c4, c5, rfl⟩, F, hl, hg⟩ ⟨rfl, hy⟩
    have tsk : TS H1 H3 := fun b us e => stay H3 F _ _ e fun _ z => by cases z
    obtain ⟨e, he, ie⟩ := izs.of hy
    rw [List.getElem?_map] at he
    obtain ⟨c, hc, rfl⟩ := Option.map_eq_some_iff.mp he
    have cm : c ∈ m.cs := List.mem_of_getElem? hc
    obtain ⟨ta, w1, w2, w3, w4, rfl, hta, g1, g2, g3, g4⟩ := (ie.mono tsk).t4
    cases g1.strE
    cases g2.strE
    cases g3.strE
    cases g4.strE
    obtain ⟨⟨hF, hFm, hFn⟩, hT, hTm, hTn⟩ := ok.cf c cm
    have LT := pre.lone hT hTm
    have LF := pre.lone hF hFm
    have hd1 := k1 _ _ pre.hds (fun z => by have := pre.hds; rw [z, pre.ob] at this; cases this)
    have o3 := stay H3 F _ _ o1 fun _ z => by cases z
    have hd3 := F _ _ hd1 ap.p12 (fun h hm => (ap.p11 h hm).2)
    have dgT : DGet H3 hd (.str c.to) (some (.ref (A hT.nm).p)) := by
      rw [← hTn]
      exact hdD_get ok hTm ▸ DGet.k (k := Sum.inr hT.nm) hd3
    have cT3 : H3 (A hT.nm).cd = some (.dK (lnD (ciOf m I hT.nm))) := F _ _ (k1 _ _ LT.cd (fun z => by have := LT.cd; rw [z, pre.ob] at this; cases this)) (fun z => by have := LT.cd; rw [z, nln] at this; cases this) (fun h hm => Ne.symm (pre.gc h hm hT hTm))
    have oT3 := stay H3 F _ _ (k1 _ _ LT.ob fun z => (ap.p10 hT hTm).2.2 z.symm) (fun _ z => by cases z)
    have oF3 := stay H3 F _ _ (k1 _ _ LF.ob fun z => (ap.p10 hF hFm).2.2 z.symm) (fun _ z => by cases z)
    have memT : (c.nm, I c.nm) ∈ ciOf m I hT.nm := List.mem_map_of_mem (f := fun c : Ch => (c.nm, I c.nm)) (List.mem_filter.mpr ⟨cm, decide_eq_true hTn.symm⟩)
    have dgC : DGet H3 (A hT.nm).cd (.str c.nm) (some (.ref (I c.nm))) := lnD_get (x := (c.nm, I c.nm)) (ciOf_nd ok) memT ▸ DGet.k (k := Sum.inr c.nm) cT3
    have cl := ok.cl
    refine ⟨_, _, rfl, SqT.of hta, rfl, _, _, rfl, _, _, rfl, _, _, rfl, _, _, rfl, rfl, ?_⟩
    refine ⟨_, rfl, p, PC K, dx, _, _, rfl, o3, cls, T.no_Plain_hands, pf_hands, _, rfl, hd, _, rfl, dgT, (A hT.nm).p, LC K, (A hT.nm).dx, _, _, rfl, oT3, T.cls_Lone, T.no_Lone_coming, lf_coming, _, rfl, (A hT.nm).cd, _, rfl, dgC, ?_⟩
    refine ⟨_, rfl, _, rfl, p, PC K, dx, _, _, rfl, o3, cls, T.no_Plain_lines, pf_lines, _, rfl, ln, _, rfl, DPut.k (k := Sum.inr c.nm) hl (small1000 (by rw [lnD, List.length_map, List.length_map, List.length_take]; omega)), ?_⟩
    have e1 : putK (lnD ((m.cs.take i).map fun c => (c.nm, I c.nm))) (Sum.inr c.nm : Key) (.ref (I c.nm)) = lnD ((m.cs.take (i + 1)).map fun c => (c.nm, I c.nm)) := by
      rw [putK_new _ (lnD_none fun z hz => fun en => nodup_take_ne (f := (·.nm)) ok.cn hc (by
        obtain ⟨c', hc', rfl⟩ := List.mem_map.mp hz
        rw [← en]
        exact List.mem_map_of_mem (f := (·.nm)) hc')), List.take_succ, hc, lnD, lnD, List.map_append, List.map_append]
      rfl
    rw [e1]
    generalize hH4 : upd H3 ln (.dK (lnD ((m.cs.take (i + 1)).map fun c => (c.nm, I c.nm)))) = H4
    have k4 : ∀ b o, H3 b = some o → b ≠ ln → H4 b = some o := fun b o e n => by rw [← hH4, upd_ne n]; exact e
    have l4 : H4 ln = some (.dK (lnD ((m.cs.take (i + 1)).map fun c => (c.nm, I c.nm)))) := by rw [← hH4]; exact upd_same
    have o4 := k4 _ _ o3 pln
    have hd4 := k4 _ _ hd3 ap.p12
    have oF4 := k4 _ _ oF3 (fun z => by have := LF.ob; rw [z, nln] at this; cases this)
    have g4 : ∀ h ∈ m.hs, H4 (A h.nm).gd = some (.dK (lnD (coOf m (mix i) h.nm))) := fun h hm => k4 _ _ (hg h hm) (gln h hm)
    have dgF : DGet H4 hd (.str c.fr) (some (.ref (A hF.nm).p)) := by
      rw [← hFn]
      exact hdD_get ok hFm ▸ DGet.k (k := Sum.inr hF.nm) hd4
    refine ⟨_, rfl, _, rfl, p, PC K, dx, _, _, rfl, o4, cls, T.no_Plain_hands, pf_hands, _, rfl, hd, _, rfl, dgF, (A hF.nm).p, LC K, (A hF.nm).dx, _, _, rfl, oF4, T.cls_Lone, T.no_Lone_gone, lf_gone, _, rfl, (A hF.nm).gd, _, rfl, DPut.k (k := Sum.inr c.nm) (g4 hF hFm) (small1000 (by
      rw [lnD, List.length_map, coOf, List.length_map]
      have h1 : (chFr m.cs hF.nm).length ≤ m.cs.length := List.length_filter_le _ _
      omega)), ?_⟩
    refine ⟨⟨_, _, _, _, _, rfl⟩, fun b o e n1 n2 => ?_, ?_, fun h hm => ?_⟩
    · rw [upd_ne (n2 hF hFm)]
      exact k4 _ _ (F _ _ e n1 n2) n1
    · rw [upd_ne (Ne.symm (gln hF hFm))]
      exact l4
    · have tk : (m.cs.take (i + 1)).map (·.nm) = (m.cs.take i).map (·.nm) ++ [c.nm] := by rw [List.take_succ, hc, List.map_append]; rfl
      by_cases e : h.nm = hF.nm
      · rw [e, upd_same]
        have memF : c.nm ∈ (chFr m.cs hF.nm).map (·.nm) := List.mem_map_of_mem (f := (·.nm)) (List.mem_filter.mpr ⟨cm, decide_eq_true hFn.symm⟩)
        rw [coOf, putK_in memF]
        refine congrArg some (congrArg HO.dK (congrArg lnD (List.map_congr_left fun c' hc' => ?_)))
        show (c'.nm, if c'.nm = c.nm then I c.nm else mix i c'.nm) = (c'.nm, mix (i + 1) c'.nm)
        congr 1
        show _ = if c'.nm ∈ (m.cs.take (i + 1)).map (·.nm) then I c'.nm else O c'.nm
        by_cases z : c'.nm = c.nm
        · rw [if_pos z, if_pos (by rw [tk, z]; exact List.mem_append_right _ List.mem_cons_self), z]
        · rw [if_neg z]
          show (if c'.nm ∈ (m.cs.take i).map (·.nm) then I c'.nm else O c'.nm) = _
          have : c'.nm ∈ (m.cs.take (i + 1)).map (·.nm) ↔ c'.nm ∈ (m.cs.take i).map (·.nm) := by
            rw [tk, List.mem_append, List.mem_singleton]
            exact ⟨fun q => q.resolve_right z, .inl⟩
          simp only [this]
      · rw [upd_ne (fun z => e (pre.gd h hm hF hFm z)), g4 h hm]
        refine congrArg some (congrArg HO.dK (congrArg lnD (List.map_congr_left fun c' hc' => ?_)))
        show (c'.nm, mix i c'.nm) = (c'.nm, mix (i + 1) c'.nm)
        congr 1
        have z : c'.nm ≠ c.nm := fun z => by
          obtain ⟨h1, h2⟩ := List.mem_filter.mp hc'
          have h3 : c'.fr = h.nm := of_decide_eq_true h2
          rw [nm_inj ok.cn h1 cm z] at h3
          exact e (h3.symm.trans hFn.symm)
        show (if c'.nm ∈ (m.cs.take i).map (·.nm) then I c'.nm else O c'.nm) = if c'.nm ∈ (m.cs.take (i + 1)).map (·.nm) then I c'.nm else O c'.nm
        have : c'.nm ∈ (m.cs.take (i + 1)).map (·.nm) ↔ c'.nm ∈ (m.cs.take i).map (·.nm) := by
          rw [tk, List.mem_append, List.mem_singleton]
          exact ⟨fun q => q.resolve_right z, .inl⟩
        simp only [this]
  · rintro σ H2 ⟨⟨c1, c2, c3, c4, c5, rfl⟩, F, hl, hg⟩
    have zl := izs.length
    rw [List.length_map] at zl
    rw [List.take_of_length_le (by omega)] at hl
    have keepO : ∀ b o, H b = some o → b ≠ p → b ≠ ln → (∀ h ∈ m.hs, b ≠ (A h.nm).gd) → H2 b = some o := fun b o e n1 n2 n3 => F _ _ (k1 _ _ e n1) n2 n3
    have nl : ∀ {b : Addr} {o : HO}, H b = some o → b ≠ ln := fun {b o} e z => by rw [z, nln] at e; cases e
    have ng : ∀ {b : Addr} {o : HO}, H b = some o → (∀ y, o ≠ .dK y) → ∀ h ∈ m.hs, b ≠ (A h.nm).gd := fun {b o} e n h hm z => by
      rw [z, (pre.lone h hm).gd] at e; cases e; exact n _ rfl
    have np : ∀ {b : Addr} {o : HO}, H b = some o → (∀ C y fs, o ≠ .ins C y fs) → b ≠ p := fun {b o} e n z => by rw [z, pre.ob] at e; cases e; exact n _ _ _ rfl
    have ts2 : TS H H2 := fun b us e => keepO _ _ e (np e (fun _ _ _ z => by cases z)) (nl e) (ng e fun _ z => by cases z)
    refine q ln H2 nln (fun b o e n => ?_) ⟨stay H2 F _ _ o1 (fun _ z => by cases z), keepO _ _ pre.hds (np pre.hds (fun _ _ _ z => by cases z)) (nl pre.hds) (fun h hm => (ap.p11 h hm).2), hl, pre.im.mono ts2, pre.ks.mono ts2, fun h hm => ?_, ?_, ap⟩
    · rw [List.mem_cons] at n
      exact keepO _ _ e (fun z => n (.inl z)) (nl e) fun h hm z => n (.inr (by rw [z]; exact List.mem_map_of_mem (f := fun h : Hd => (A h.nm).gd) hm))
    · have L := pre.lone h hm
      obtain ⟨ls, a1, a2⟩ := L.la
      obtain ⟨kvs, d1, d2⟩ := L.hd
      refine ⟨keepO _ _ L.ob (fun z => (ap.p10 h hm).2.2 z.symm) (nl L.ob) (ng L.ob fun _ z => by cases z), L.rw_.mono ts2, ⟨ls, keepO _ _ a1 (np a1 (fun _ _ _ z => by cases z)) (nl a1) (ng a1 fun _ z => by cases z), a2.mono ts2⟩,
        ⟨kvs, keepO _ _ d1 (np d1 (fun _ _ _ z => by cases z)) (nl d1) (fun k hk => Ne.symm (ap.p6 k hk h hm)), d2.mono ts2⟩, keepO _ _ L.cd (np L.cd (fun _ _ _ z => by cases z)) (nl L.cd) (fun k hk => Ne.symm (pre.gc k hk h hm)), ?_, keepO _ _ L.nt (np L.nt (fun _ _ _ z => by cases z)) (nl L.nt) (ng L.nt fun _ z => by cases z)⟩
      show H2 (A h.nm).gd = _
      rw [hg h hm]
      refine congrArg some (congrArg HO.dK (congrArg lnD (List.map_congr_left fun c' hc' => ?_)))
      show (c'.nm, mix _ c'.nm) = (c'.nm, I c'.nm)
      congr 1
      show (if c'.nm ∈ (m.cs.take _).map (·.nm) then I c'.nm else O c'.nm) = I c'.nm
      rw [if_pos]
      rw [List.take_of_length_le (by omega)]
      exact List.mem_map_of_mem (f := (·.nm)) (List.mem_filter.mp hc').1
    · exact pre.lines.keep ts2 fun y hy o e => keepO _ _ e (fun z => by
        obtain ⟨us, h3, _⟩ := pre.lines y hy
        rw [z, pre.ob] at h3
        cases h3) (nl e) fun h hm z => by
        obtain ⟨us, h3, _⟩ := pre.lines y hy
        rw [z, (pre.lone h hm).gd] at h3
        cases h3
end
end Sw
set_option Elab.async false
set_option linter.all false
set_option maxRecDepth 100000
set_option maxHeartbeats 4000000
/-! Plain.__init__. -/
namespace Sw
open PySem PySem.Spec PyProof.Rows L2
/-- one hand as it comes -/
structure LH where
  a : LAd
  ci : List (Str × Addr)
  co : List (Str × Addr)
  hs : HS
def LH.all (B : LH) : List Addr := B.a.p :: B.a.own ++ (B.ci ++ B.co).map (·.2)
structure LhOk (K : PySem.W.Frag) (H0 H : Hp) (kv : V) (m : Make) (h : Hd) (B : LH) : Prop where
  lone : LoneAt K H kv B.a h.rows B.ci B.co B.hs
  cin : B.ci.map (·.1) = (chTo m.cs h.nm).map (·.nm)
  con : B.co.map (·.1) = (chFr m.cs h.nm).map (·.nm)
  nod : ((B.ci ++ B.co).map (·.2)).Nodup
  yla : ∀ y ∈ B.ci ++ B.co, y.2 ≠ B.a.la ∧ y.2 ≠ B.a.nt
  lant : B.a.la ≠ B.a.nt
  hdcd : B.a.hd ≠ B.a.cd
  hdgd : B.a.hd ≠ B.a.gd
  gdcd : B.a.gd ≠ B.a.cd
  hs : HSOk m.ks h B.hs
  nts : B.hs.notes = []
  mt : ∀ y ∈ B.ci ++ B.co, H y.2 = some (.lst [])
  fr : ∀ b ∈ B.all, H0 b = none
section
variable {K : PySem.W.Frag} {H0 H H' : Hp} {kv : V} {m : Make} {h : Hd} {B : LH}
theorem LhOk.taken (l : LhOk K H0 H kv m h B) : ∀ b ∈ B.all, H b ≠ none := by
  intro b hb
  obtain ⟨ls, l1, _⟩ := l.lone.la
  obtain ⟨kvs, d1, _⟩ := l.lone.hd
  rcases List.mem_append.mp hb with hb | hb
  · simp only [LAd.own, List.mem_cons, List.not_mem_nil, or_false] at hb
    rcases hb with rfl | rfl | rfl | rfl | rfl | rfl
    · rw [l.lone.ob]; exact Option.some_ne_none _
    · rw [l1]; exact Option.some_ne_none _
    · rw [d1]; exact Option.some_ne_none _
    · rw [l.lone.cd]; exact Option.some_ne_none _
    · rw [l.lone.gd]; exact Option.some_ne_none _
    · rw [l.lone.nt]; exact Option.some_ne_none _
  · obtain ⟨y, hy, rfl⟩ := List.mem_map.mp hb
    rw [l.mt y hy]
    exact Option.some_ne_none _
theorem LhOk.keep (l : LhOk K H0 H kv m h B) (t : TS H H') (k : ∀ b ∈ B.all, ∀ o, H b = some o → H' b = some o) : LhOk K H0 H' kv m h B := by
  refine { l with lone := l.lone.keep t fun b hb o e => k b ?_ o e, mt := fun y hy => k _ ?_ _ (l.mt y hy) }
  · rcases hb with rfl | rfl | rfl | rfl | rfl | rfl <;> simp [LH.all, LAd.own]
  · exact List.mem_append_right _ (List.mem_map_of_mem (f := (·.2)) hy)
end
/-- the place that a list of names and places has for a name -/
def getA (l : List (Str × Addr)) (n : Str) : Addr := ((l.find? fun y => decide (y.1 = n)).map (·.2)).getD 0
theorem getA_of {l : List (Str × Addr)} (nd : (l.map (·.1)).Nodup) {y : Str × Addr} (hy : y ∈ l) : getA l y.1 = y.2 := by
  obtain ⟨i, hi, e⟩ := List.mem_iff_getElem.mp hy
  have := find_of (fun x : Str × Addr => x.1) nd (i := i) (x := y) (by rw [List.getElem?_eq_getElem hi, e])
  unfold getA
  rw [this]
  rfl
theorem getA_map {l : List (Str × Addr)} {cs : List Ch} (e : l.map (·.1) = cs.map (·.nm)) (nd : (cs.map (·.nm)).Nodup) : l = cs.map fun c => (c.nm, getA l c.nm) := by
  have nd' : (l.map (·.1)).Nodup := by rw [e]; exact nd
  have h1 : l = l.map fun y => (y.1, getA l y.1) := by
    conv => lhs; rw [← List.map_id l]
    exact List.map_congr_left fun y hy => by rw [getA_of nd' hy]; rfl
  have h2 : (l.map (·.1)).map (fun n => (n, getA l n)) = (cs.map (·.nm)).map (fun n => (n, getA l n)) := by rw [e]
  rw [List.map_map, List.map_map] at h2
  exact h1.trans h2
/-- a channel's receiver, sender -/
def toOf (m : Make) (n : Str) : Str := ((m.cs.find? fun c => decide (c.nm = n)).map (·.to)).getD ""
def frOf (m : Make) (n : Str) : Str := ((m.cs.find? fun c => decide (c.nm = n)).map (·.fr)).getD ""
theorem toOf_of {m : Make} (ok : MOk m) {c : Ch} (hc : c ∈ m.cs) : toOf m c.nm = c.to := by
  obtain ⟨i, hi, e⟩ := List.mem_iff_getElem.mp hc
  have := find_of (fun x : Ch => x.nm) ok.cn (i := i) (x := c) (by rw [List.getElem?_eq_getElem hi, e])
  unfold toOf
  rw [this]
  rfl
theorem frOf_of {m : Make} (ok : MOk m) {c : Ch} (hc : c ∈ m.cs) : frOf m c.nm = c.fr := by
  obtain ⟨i, hi, e⟩ := List.mem_iff_getElem.mp hc
  have := find_of (fun x : Ch => x.nm) ok.cn (i := i) (x := c) (by rw [List.getElem?_eq_getElem hi, e])
  unfold frOf
  rw [this]
  rfl
/-- all the hands of a make, as they come -/
structure Hands (K : PySem.W.Frag) (H0 H : Hp) (kv : V) (m : Make) (hs : List Hd) (x hd : Addr) (B : Str → LH) : Prop where
  ok : ∀ h ∈ hs, LhOk K H0 H kv m h (B h.nm)
  ap : ∀ h ∈ hs, ∀ k ∈ hs, h.nm ≠ k.nm → ∀ b ∈ (B h.nm).all, b ∉ (B k.nm).all
  hd : ∀ h ∈ hs, hd ∉ (B h.nm).all
  x : ∀ h ∈ hs, x ∉ (B h.nm).all
theorem Hands.pre {K : PySem.W.Frag} {H0 H : Hp} {mv kv : V} {m : Make} {x dx hd : Addr} {B : Str → LH} (ok : MOk m) (h : Hands K H0 H kv m m.hs x hd B) (ob : H x = some (.ins (PC K) dx (pfs2 mv hd))) (hds : H hd = some (.dK (hdD m.hs fun n => (B n).a))) (im : Im H mv m.d) (ks : KsAt H kv m.ks) :
    Pre K H mv kv m x dx hd (fun n => (B n).a) (fun n => getA (B (toOf m n)).ci n) (fun n => getA (B (frOf m n)).co n) ⟨fun n => (B n).hs, fun _ => []⟩ := by
  have ndT : ∀ n, ((chTo m.cs n).map (·.nm)).Nodup := fun n => (List.Sublist.map _ List.filter_sublist).nodup ok.cn
  have ndF : ∀ n, ((chFr m.cs n).map (·.nm)).Nodup := fun n => (List.Sublist.map _ List.filter_sublist).nodup ok.cn
  have eI : ∀ k ∈ m.hs, (B k.nm).ci = ciOf m (fun n => getA (B (toOf m n)).ci n) k.nm := fun k hk => by
    refine (getA_map (h.ok k hk).cin (ndT _)).trans (List.map_congr_left fun c hc => ?_)
    obtain ⟨h1, h2⟩ := List.mem_filter.mp hc
    show (c.nm, getA (B k.nm).ci c.nm) = (c.nm, getA (B (toOf m c.nm)).ci c.nm)
    rw [toOf_of ok h1, (of_decide_eq_true h2 : c.to = k.nm)]
  have eO : ∀ k ∈ m.hs, (B k.nm).co = coOf m (fun n => getA (B (frOf m n)).co n) k.nm := fun k hk => by
    refine (getA_map (h.ok k hk).con (ndF _)).trans (List.map_congr_left fun c hc => ?_)
    obtain ⟨h1, h2⟩ := List.mem_filter.mp hc
    show (c.nm, getA (B k.nm).co c.nm) = (c.nm, getA (B (frOf m c.nm)).co c.nm)
    rw [frOf_of ok h1, (of_decide_eq_true h2 : c.fr = k.nm)]
  -- a row of letters is one of its receiver's
  have mI : ∀ c ∈ m.cs, ∃ k ∈ m.hs, k.nm = c.to ∧ (c.nm, getA (B (toOf m c.nm)).ci c.nm) ∈ (B k.nm).ci := fun c hc => by
    obtain ⟨_, k, hk, hn⟩ := ok.cf c hc
    refine ⟨k, hk, hn, ?_⟩
    rw [eI k hk]
    exact List.mem_map_of_mem (f := fun c : Ch => (c.nm, getA (B (toOf m c.nm)).ci c.nm)) (List.mem_filter.mpr ⟨hc, decide_eq_true hn.symm⟩)
  have inL : ∀ {k : Hd} {y : Str × Addr}, y ∈ (B k.nm).ci → y.2 ∈ (B k.nm).all := fun {k y} hy => List.mem_append_right _ (List.mem_map_of_mem (f := (·.2)) (List.mem_append_left _ hy))
  have cross : ∀ {h1 k : Hd}, h1 ∈ m.hs → k ∈ m.hs → ∀ {b : Addr}, b ∈ (B h1.nm).all → b ∈ (B k.nm).all → h1.nm = k.nm := fun {h1 k} hh hk {b} m1 m2 => by
    by_cases e : h1.nm = k.nm
    · exact e
    · exact absurd m2 (h.ap _ hh _ hk e b m1)
  have o1 : ∀ {k : Hd}, (B k.nm).a.p ∈ (B k.nm).all := fun {k} => by simp [LH.all]
  have o2 : ∀ {k : Hd}, (B k.nm).a.la ∈ (B k.nm).all := fun {k} => by simp [LH.all, LAd.own]
  have o3 : ∀ {k : Hd}, (B k.nm).a.hd ∈ (B k.nm).all := fun {k} => by simp [LH.all, LAd.own]
  have o4 : ∀ {k : Hd}, (B k.nm).a.cd ∈ (B k.nm).all := fun {k} => by simp [LH.all, LAd.own]
  have o5 : ∀ {k : Hd}, (B k.nm).a.gd ∈ (B k.nm).all := fun {k} => by simp [LH.all, LAd.own]
  have o6 : ∀ {k : Hd}, (B k.nm).a.nt ∈ (B k.nm).all := fun {k} => by simp [LH.all, LAd.own]
  refine ⟨ob, hds, im, ks, fun k hk => ?_, fun y hy => ?_, fun ln nln => ⟨?_, ?_, ?_, ?_, ?_, ?_, ?_, ?_, ?_, ?_, ?_, ?_⟩, ?_, ?_⟩
  · have := (h.ok k hk).lone
    rw [eI k hk, eO k hk] at this
    exact this
  · obtain ⟨c, hc, rfl⟩ := List.mem_map.mp hy
    obtain ⟨k, hk, hn, hm⟩ := mI c hc
    exact ⟨[], (h.ok k hk).mt _ (List.mem_append_left _ hm), .nil⟩
  · exact fun a ha k hk e => cross ha hk o1 (by show (B a.nm).a.p ∈ _; rw [show (B a.nm).a.p = (B k.nm).a.p from e]; exact o1)
  · exact fun a ha k hk e => cross ha hk o3 (by show (B a.nm).a.hd ∈ _; rw [show (B a.nm).a.hd = (B k.nm).a.hd from e]; exact o3)
  · exact fun a ha k hk e => cross ha hk o6 (by show (B a.nm).a.nt ∈ _; rw [show (B a.nm).a.nt = (B k.nm).a.nt from e]; exact o6)
  · intro a ha k hk e
    have e' : (B a.nm).a.la = (B k.nm).a.nt := e
    have z := cross ha hk o2 (by rw [e']; exact o6)
    rw [z] at e'
    exact (h.ok k hk).lant e'
  · intro a ha k hk e
    have e' : (B a.nm).a.cd = (B k.nm).a.hd := e
    have z := cross ha hk o4 (by rw [e']; exact o3)
    rw [z] at e'
    exact (h.ok k hk).hdcd e'.symm
  · intro a ha k hk e
    have e' : (B a.nm).a.gd = (B k.nm).a.hd := e
    have z := cross ha hk o5 (by rw [e']; exact o3)
    rw [z] at e'
    exact (h.ok k hk).hdgd e'.symm
  · intro a ha c hc e
    obtain ⟨k, hk, hn, hm⟩ := mI c hc
    have e' : getA (B (toOf m c.nm)).ci c.nm = (B a.nm).a.nt := e
    have i1 := inL hm
    have z := cross hk ha i1 (by show getA (B (toOf m c.nm)).ci c.nm ∈ _; rw [e']; exact o6)
    exact ((h.ok k hk).yla _ (List.mem_append_left _ hm)).2 (by rw [z]; exact e')
  · intro a ha c hc e
    obtain ⟨k, hk, hn, hm⟩ := mI c hc
    have e' : getA (B (toOf m c.nm)).ci c.nm = (B a.nm).a.la := e
    have i1 := inL hm
    have z := cross hk ha i1 (by show getA (B (toOf m c.nm)).ci c.nm ∈ _; rw [e']; exact o2)
    exact ((h.ok k hk).yla _ (List.mem_append_left _ hm)).1 (by rw [z]; exact e')
  · intro c hc e he eq
    obtain ⟨k, hk, hn, hm⟩ := mI c hc
    obtain ⟨k', hk', hn', hm'⟩ := mI e he
    have e' : getA (B (toOf m c.nm)).ci c.nm = getA (B (toOf m e.nm)).ci e.nm := eq
    have z := cross hk hk' (inL hm) (by show getA (B (toOf m c.nm)).ci c.nm ∈ _; rw [e']; exact inL hm')
    rw [z] at hm
    have nd : ((B k'.nm).ci.map (·.2)).Nodup := by
      have := (h.ok k' hk').nod
      rw [List.map_append] at this
      exact (List.nodup_append.mp this).1
    obtain ⟨i, hi, ei⟩ := List.mem_iff_getElem.mp hm
    obtain ⟨j, hj, ej⟩ := List.mem_iff_getElem.mp hm'
    have h2 : ((B k'.nm).ci.map (·.2))[i]? = ((B k'.nm).ci.map (·.2))[j]? := by
      rw [List.getElem?_map, List.getElem?_map, List.getElem?_eq_getElem hi, List.getElem?_eq_getElem hj, ei, ej]
      exact congrArg some e'
    have ij := (List.getElem?_inj (by rw [List.length_map]; omega) nd).mp h2
    subst ij
    rw [ei] at ej
    injection ej
  · exact fun a ha => ⟨fun z => h.hd a ha (by rw [show hd = (B a.nm).a.hd from z]; exact o3), fun z => (h.ok a ha).taken _ o3 (by rw [← show ln = (B a.nm).a.hd from z]; exact nln), fun z => h.x a ha (by rw [show x = (B a.nm).a.p from z]; exact o1)⟩
  · exact fun a ha => ⟨fun z => h.hd a ha (by rw [show hd = (B a.nm).a.cd from z]; exact o4), fun z => h.hd a ha (by rw [show hd = (B a.nm).a.gd from z]; exact o5)⟩
  · exact fun z => by
      have z' : hd = ln := z
      rw [z', nln] at hds
      cases hds
  · exact fun a ha k hk e => cross ha hk o5 (by show (B a.nm).a.gd ∈ _; rw [show (B a.nm).a.gd = (B k.nm).a.gd from e]; exact o5)
  · intro a ha k hk e
    have e' : (B a.nm).a.gd = (B k.nm).a.cd := e
    have z := cross ha hk o5 (by rw [e']; exact o4)
    rw [z] at e'
    exact (h.ok k hk).gdcd e'
end Sw
set_option Elab.async false
set_option linter.all false
set_option maxRecDepth 100000
set_option maxHeartbeats 4000000
/-! Plain.__init__. -/
namespace Sw
open PySem PySem.Spec PyProof.Rows L2
section
variable {P : Program} {w : World} {K : PySem.W.Frag} {mg : Str → Option Value} {base : Heap}
def spPInit (K : PySem.W.Frag) : Sp := fun vs H Q _ => ∃ (x dx : Addr) (mv : V) (m : Make), vs = [.ref x, mv] ∧ H x = some (.ins (PC K) dx []) ∧ Im H mv m.d ∧ MOk m ∧
  ∀ (kv : V) (a : PA) (S : St) (H' : Hp), a.p = x → But [x] H H' → (∀ b ∈ a.all m, b ≠ x → H b = none) → HouseAt K H' mv kv m a S → SOk m S → Bnd m 0 S → (∀ b ∈ a.mut m, b ≠ x) → Q .non H'
theorem hdD_put {hs : List Hd} {h : Hd} {i : Nat} (nd : (hs.map (·.nm)).Nodup) (hh : hs[i]? = some h) {A A' : Str → LAd} (e1 : ∀ n, n ≠ h.nm → A' n = A n) {x : Addr} (e2 : (A' h.nm).p = x) : putK (hdD (hs.take i) A) (Sum.inr h.nm : Key) (.ref x) = hdD (hs.take (i + 1)) A' := by
  have ne : ∀ k ∈ hs.take i, k.nm ≠ h.nm := fun k hk e => nodup_take_ne (f := (·.nm)) nd hh (by rw [← e]; exact List.mem_map_of_mem (f := (·.nm)) hk)
  have e0 : hdD (hs.take i) A = lnD ((hs.take i).map fun h => (h.nm, (A h.nm).p)) := by rw [hdD, lnD, List.map_map]; rfl
  rw [putK_new, List.take_succ, hh, hdD, hdD, Option.toList, List.map_append, ← e2]
  · congr 1
    exact List.map_congr_left fun k hk => by rw [e1 _ (ne k hk)]
  · rw [e0]
    exact lnD_none fun z hz => by
      obtain ⟨k, hk, rfl⟩ := List.mem_map.mp hz
      exact ne k hk
theorem Hands.nil {H0 H : Hp} {kv : V} {m : Make} {x hd : Addr} {B : Str → LH} : Hands K H0 H kv m [] x hd B := ⟨fun _ hm => absurd hm List.not_mem_nil, fun _ hm => absurd hm List.not_mem_nil, fun _ hm => absurd hm List.not_mem_nil, fun _ hm => absurd hm List.not_mem_nil⟩
theorem fnPInit (T : Txt K mg) : ∃ fd, FnOk P w K mg base C8.CX0 12 (He.fAd K ("Plain", some "__init__")) fd pP_Init (spPInit K) ∧ FunD K "__init__" "Plain.__init__" (defArgs sP_Init) (defBody sP_Init) (defScope sP_Init) [] [] (He.fAd K ("Plain", some "__init__")) fd := by
  obtain ⟨fd, F⟩ := T.fP_Init
  refine ⟨fd, ?_, F⟩
  have mLone0 := makL0 (P := P) (w := w) (base := base) T
  have mP_Share := metPShare (P := P) (w := w) (base := base) T
  refine F.ok (k := 11) scP_Init (fun vs H Q E h => ?_) (fun cdv A outer s H vs Q E hr h => ?_)
  · obtain ⟨x, dx, mv, m, rfl, _⟩ := h
    rfl
  obtain ⟨x, dx, mv, m, rfl, ho, im, mok, k⟩ := h
  have hu := hu_of hr
  have cls := T.cls_Plain
  refine ⟨_, PSs.nox (pss_cons (ps_fld (pv 0) (pv 1) rfl)
      (pss_cons (ps_fld (pv 0) pe_dnewK rfl)
      (pss_cons (ps_for PassesOwn.never rfl (pi_tup (pe_ix (ix_tupK (K := K) rfl) (pv 1) pe_int (fun _ _ => rfl))) (pg_tupK (K := K) (n := 3) rfl rfl (pgs_cons (pg_name (i := 2) scP_Init.nd rfl (Or.inl rfl)) (pgs_cons (pg_name (i := 3) scP_Init.nd rfl (Or.inl rfl)) (pgs_cons (pg_name (i := 4) scP_Init.nd rfl (Or.inl rfl)) pgs_nil))))
        (pss_one (ps_dput hu (pe_fld (pv 0) rfl) (pv 2) (C8.pe_mk mLone0 hr (by omega) rfl (pa_cons (pv 1) (pa_cons (pv 2) (pa_cons pe_dnewK pa_nil)))) rfl)))
      (pss_one (ps_expr (C8.pe_mt0 mP_Share hr (by omega) (pv 0))))))), ?_⟩
  refine ⟨_, rfl, _, rfl, x, PC K, dx, [], rfl, ho, cls, T.no_Plain_make, (by decide), ?_⟩
  rw [pq1]
  have b1 : But [x] H (upd H x (.ins (PC K) dx (pfs1 mv))) := But.refl.put (by simp) _
  have o1 : upd H x (.ins (PC K) dx (pfs1 mv)) x = some (.ins (PC K) dx (pfs1 mv)) := upd_same
  generalize upd H x (.ins (PC K) dx (pfs1 mv)) = H1 at b1 o1
  intro hd nhd
  have hdx : hd ≠ x := fun z => by rw [z, o1] at nhd; cases nhd
  have s1 : Same H1 (upd H1 hd (.dK [])) := same_new nhd _
  refine ⟨_, rfl, x, PC K, dx, _, rfl, s1 _ _ o1, cls, T.no_Plain_hands, (by show 1 < 1000; decide), ?_⟩
  rw [pq2]
  have b2 : But [x] H (upd (upd H1 hd (.dK [])) x (.ins (PC K) dx (pfs2 mv hd))) := (b1.trans (.same s1)).put (by simp) _
  have o2 : upd (upd H1 hd (.dK [])) x (.ins (PC K) dx (pfs2 mv hd)) x = some (.ins (PC K) dx (pfs2 mv hd)) := upd_same
  have d2 : upd (upd H1 hd (.dK [])) x (.ins (PC K) dx (pfs2 mv hd)) hd = some (.dK []) := by rw [upd_ne hdx]; exact upd_same
  have fhd : H hd = none := by
    cases e : H hd with
    | none => rfl
    | some o => rw [b1 _ _ e (by simpa using hdx)] at nhd; cases nhd
  generalize upd (upd H1 hd (.dK [])) x (.ins (PC K) dx (pfs2 mv hd)) = H2 at b2 o2 d2
  have tsB : ∀ {H' : Hp}, But [x] H H' → TS H H' := fun {H'} b => b.ts fun b' hb xs e => by
    rw [List.mem_singleton] at hb
    rw [hb, ho] at e
    cases e
  obtain ⟨ma, v1, v2, v3, rfl, hma, i1, i2, i3⟩ := id im.t3
  obtain ⟨ca, zs, rfl, hca, izs⟩ := i3.tupE
  have max : ma ∉ [x] := fun z => by rw [List.mem_singleton] at z; rw [z, ho] at hma; cases hma
  have cax : ca ∉ [x] := fun z => by rw [List.mem_singleton] at z; rw [z, ho] at hca; cases hca
  refine ⟨_, rfl, _, _, _, _, rfl, rfl, SqT.of (b2 _ _ hma max), at2, ca, rfl, ⟨_, SqT.of (b2 _ _ hca cax)⟩,
    for_it (walk_tup (K := K) (a := ca) (xs := zs)) (fun i σ H' => (∃ c1 c2 c3, σ = [some (.ref x), some (.ref ma), c1, c2, c3]) ∧ ∃ B : Str → LH, But [x] H H' ∧ H' x = some (.ins (PC K) dx (pfs2 (.ref ma) hd)) ∧ H' hd = some (.dK (hdD (m.hs.take i) fun n => (B n).a)) ∧ Hands K H H' v1 m (m.hs.take i) x hd B)
    ⟨⟨_, _, _, rfl⟩, fun _ => ⟨⟨0, 0, 0, 0, 0, 0, 0, 0⟩, [], [], ⟨0, [], [], 0⟩⟩, b2, o2, d2, Hands.nil⟩
    (fun i σ H' _ hP => by obtain ⟨_, B, b, _⟩ := hP; exact SqT.of (b _ _ hca cax)) ?_ ?_⟩
  · rintro i y σ H3 H4 hi ⟨⟨c1, c2, c3, rfl⟩, B, b3, o3, d3, hh⟩ ⟨rfl, hy⟩
    have ts3 := tsB b3
    obtain ⟨e, he, ie⟩ := izs.of hy
    rw [List.getElem?_map] at he
    obtain ⟨h, hhs, rfl⟩ := Option.map_eq_some_iff.mp he
    have hm : h ∈ m.hs := List.mem_of_getElem? hhs
    obtain ⟨ta, w1, w2, w3, rfl, hta, g1, g2, g3⟩ := (ie.mono ts3).t3
    cases g1.strE
    refine ⟨_, _, rfl, SqT.of hta, rfl, _, _, rfl, _, _, rfl, _, _, rfl, rfl, ?_⟩
    refine ⟨_, rfl, _, rfl, fun lv nlv => ?_⟩
    have s4 : Same H4 (upd H4 lv (.dK [])) := same_new nlv _
    have e4 : upd H4 lv (.dK []) lv = some (.dK []) := upd_same
    generalize upd H4 lv (.dK []) = H5 at s4 e4
    intro x' dx' nx' ndx' dxx
    have s5 : Same H5 (upd H5 dx' (.own x')) := same_new ndx' _
    have nx5 : upd H5 dx' (.own x') x' = none := by rw [upd_ne (Ne.symm dxx)]; exact nx'
    have s6 : Same H4 (upd (upd H5 dx' (.own x')) x' (.ins (LC K) dx' [])) := Same.tr (Same.tr s4 s5) (same_new nx5 _)
    have s56 : Same H5 (upd (upd H5 dx' (.own x')) x' (.ins (LC K) dx' [])) := Same.tr s5 (same_new nx5 _)
    have o6 : upd (upd H5 dx' (.own x')) x' (.ins (LC K) dx' []) x' = some (.ins (LC K) dx' []) := upd_same
    generalize upd (upd H5 dx' (.own x')) x' (.ins (LC K) dx' []) = H6 at s6 s56 o6
    have nx4 : H4 x' = none := by
      cases e : H4 x' with
      | none => rfl
      | some o => rw [s4 _ _ e] at nx'; cases nx'
    refine ⟨x', dx', lv, .ref ma, .non, h.nm, m, h, fun _ => [], fun i r => i = 0 ∧ EnvOk m.ks h.bx r ∧ r.map (·.1) = h.bx.map (·.1), rfl, o6, im.mono (TS.trans ts3 (ts_same s6)), mok, handOf_mem mok hm, ⟨[], s56 _ _ e4, fun c _ _ => .inl ⟨rfl, rfl⟩⟩, .inl ⟨rfl, fun r e1 e2 => ⟨rfl, e1, e2⟩⟩, ?_⟩
    rintro kv a ci co hs H7 ea b7 fr7 L7 k7 ⟨p1, p2, p3⟩ nts dn cin con lns emp nod yla lant hdcd hdgd gdcd ⟨ma', v2', v3', emv, hmv⟩
    cases emv
    have kve : kv = v1 := by
      have := s6 _ _ (b3 _ _ hma max)
      rw [this] at hmv
      injection hmv with z
      injection z with z
      injection z with z
      exact z.symm
    subst kve
    have nex' : ∀ {b : Addr} {o : HO}, H4 b = some o → b ∉ [x'] := fun {b o} e z => by rw [List.mem_singleton] at z; rw [z, nx4] at e; cases e
    have d7 := b7 _ _ (s6 _ _ d3) (nex' d3)
    have o7 := b7 _ _ (s6 _ _ o3) (nex' o3)
    refine ⟨rfl, _, rfl, x, PC K, dx, _, _, rfl, o7, cls, T.no_Plain_hands, p2_hands, _, rfl, hd, _, rfl, DPut.k (k := Sum.inr h.nm) d7 (small1000 (by
      rw [hdD, List.length_map, List.length_take]
      have := mok.hl
      omega)), ?_⟩
    let B' : Str → LH := fun n => if n = h.nm then ⟨a, ci, co, hs⟩ else B n
    have B'h : B' h.nm = ⟨a, ci, co, hs⟩ := if_pos rfl
    have B'n : ∀ n, n ≠ h.nm → B' n = B n := fun n e => if_neg e
    have e1 := hdD_put (A := fun n => (B n).a) (A' := fun n => (B' n).a) mok.hn hhs (fun n e => by show (B' n).a = _; rw [B'n n e]) (x := x') (by show (B' h.nm).a.p = x'; rw [B'h]; exact ea)
    rw [e1]
    have ne : ∀ k ∈ m.hs.take i, k.nm ≠ h.nm := fun k hk e => nodup_take_ne (f := (·.nm)) mok.hn hhs (by rw [← e]; exact List.mem_map_of_mem (f := (·.nm)) hk)
    -- all of the new hand is new
    have fr4 : ∀ b ∈ (B' h.nm).all, H4 b = none := fun b hb => by
      rw [B'h] at hb
      rcases List.mem_append.mp hb with hb | hb
      · rcases List.mem_cons.mp hb with e | hb
        · rw [e]
          show H4 a.p = none
          rw [ea]
          exact nx4
        · cases e : H4 b with
          | none => rfl
          | some o => have := fr7 b (List.mem_append_left _ hb); rw [s6 _ _ e] at this; cases this
      · cases e : H4 b with
        | none => rfl
        | some o => have := fr7 b (List.mem_append_right _ hb); rw [s6 _ _ e] at this; cases this
    have ndK : ∀ {b : Addr}, b ∈ (B' h.nm).all → b ≠ hd := fun {b} hb z => by have := fr4 b hb; rw [z, d3] at this; cases this
    have ts8 : TS H7 (upd H7 hd (.dK (hdD (m.hs.take (i + 1)) fun n => (B' n).a))) := fun b us e => by rw [upd_ne (fun z => by rw [z, d7] at e; cases e)]; exact e
    have LN : LhOk K H H7 kv m h (B' h.nm) := by
      have hlt : 0 < h.rows.length := List.length_pos_iff.mpr (mok.hd h hm).rows.1
      have em : ∀ y ∈ ci ++ co, H7 y.2 = some (.lst []) := fun y hy => by
        rcases List.mem_append.mp hy with hy | hy
        · obtain ⟨xs, h1, h2⟩ := lns y hy
          cases h2
          exact h1
        · exact emp y hy
      have hfr : ∀ b ∈ (B' h.nm).all, H b = none := fun b hb => by
        have n4 := fr4 b hb
        cases e : H b with
        | none => rfl
        | some o =>
          by_cases z : b = x
          · rw [z, o3] at n4; cases n4
          · rw [b3 _ _ e (by simpa using z)] at n4; cases n4
      rw [B'h] at hfr ⊢
      exact ⟨L7, cin, con, nod, yla, lant, hdcd, hdgd, gdcd, ⟨by rw [p1]; exact hlt, p2, p3⟩, nts, em, hfr⟩
    have LO : ∀ k ∈ m.hs.take i, LhOk K H (upd H7 hd (.dK (hdD (m.hs.take (i + 1)) fun n => (B' n).a))) kv m k (B' k.nm) := fun k hk => by
      rw [B'n _ (ne k hk)]
      have L := hh.ok k hk
      refine L.keep (fun b us e => ts8 _ _ (b7 _ _ (s6 _ _ e) (nex' e))) fun b hb o e => ?_
      rw [upd_ne (fun z => hh.hd k hk (by rw [← z]; exact hb))]
      exact b7 _ _ (s6 _ _ e) (nex' e)
    have split : ∀ k ∈ m.hs.take (i + 1), k ∈ m.hs.take i ∨ k = h := fun k hk => by
      rw [List.take_succ, hhs] at hk
      rcases List.mem_append.mp hk with hk | hk
      · exact .inl hk
      · exact .inr (by simpa using hk)
    have tak : ∀ k ∈ m.hs.take i, ∀ b ∈ (B' k.nm).all, H4 b ≠ none := fun k hk b hb => by
      rw [B'n _ (ne k hk)] at hb
      exact (hh.ok k hk).taken b hb
    refine ⟨⟨_, _, _, rfl⟩, B', fun b o e n => ?_, ?_, upd_same, ⟨fun k hk => ?_, fun k hk l hl en b h1 h2 => ?_, fun k hk hb => ?_, fun k hk hb => ?_⟩⟩
    · rw [upd_ne (fun z => by rw [z, fhd] at e; cases e)]
      exact b7 _ _ (s6 _ _ (b3 _ _ e n)) (nex' (b3 _ _ e n))
    · rw [upd_ne (Ne.symm hdx)]
      exact o7
    · rcases split k hk with hk | rfl
      · exact LO k hk
      · exact LN.keep ts8 fun b hb o e => by rw [upd_ne (ndK hb)]; exact e
    · rcases split k hk with hk | rfl <;> rcases split l hl with hl | rfl
      · rw [B'n _ (ne k hk)] at h1
        rw [B'n _ (ne l hl)] at h2
        exact hh.ap k hk l hl en b h1 h2
      · exact tak k hk b h1 (fr4 b h2)
      · exact tak l hl b h2 (fr4 b h1)
      · exact en rfl
    · rcases split k hk with hk | rfl
      · rw [B'n _ (ne k hk)] at hb
        exact hh.hd k hk hb
      · exact ndK hb rfl
    · rcases split k hk with hk | rfl
      · rw [B'n _ (ne k hk)] at hb
        exact hh.x k hk hb
      · have := fr4 x hb
        rw [o3] at this
        cases this
  · rintro σ H3 ⟨⟨c1, c2, c3, rfl⟩, B, b3, o3, d3, hh⟩
    have zl := izs.length
    rw [List.length_map] at zl
    rw [List.take_of_length_le (by omega)] at d3 hh
    have pre := hh.pre mok o3 d3 (im.mono (tsB b3)) (show KsAt H3 v1 m.ks from i1.mono (tsB b3))
    refine ⟨_, rfl, x, dx, _, rfl, o3, p2_no _ (by decide +kernel), x, dx, hd, .ref ma, v1, m, _, _, _, _, rfl, pre, mok, fun ln H4 nln b4 h4 => ?_⟩
    have fgd : ∀ h ∈ m.hs, (B h.nm).a.gd ∈ (B h.nm).all := fun h _ => by simp [LH.all, LAd.own]
    have frI : ∀ c ∈ m.cs, ∃ k ∈ m.hs, getA (B (toOf m c.nm)).ci c.nm ∈ (B k.nm).all := fun c hc => by
      obtain ⟨_, k, hk, hn⟩ := mok.cf c hc
      refine ⟨k, hk, List.mem_append_right _ ?_⟩
      have e1 := (hh.ok k hk).cin
      have ndT : ((chTo m.cs k.nm).map (·.nm)).Nodup := (List.Sublist.map _ List.filter_sublist).nodup mok.cn
      have e2 := getA_map e1 ndT
      rw [toOf_of mok hc, ← hn]
      have mm : (c.nm, getA (B k.nm).ci c.nm) ∈ (B k.nm).ci := by
        rw [e2]
        have : ((c.nm, getA (B k.nm).ci c.nm) : Str × Addr) ∈ (chTo m.cs k.nm).map fun c => (c.nm, getA (B k.nm).ci c.nm) := List.mem_map_of_mem (f := fun c : Ch => (c.nm, getA (B k.nm).ci c.nm)) (List.mem_filter.mpr ⟨hc, decide_eq_true hn.symm⟩)
        rw [← e2]
        rw [← e2] at this
        exact this
      exact List.mem_map_of_mem (f := (·.2)) (List.mem_append_left _ mm)
    refine k v1 ⟨x, dx, hd, ln, fun n => (B n).a, fun n => getA (B (toOf m n)).ci n⟩ _ H4 rfl (fun b o e n => b4 _ _ (b3 _ _ e n) fun hb => ?_) (fun b hb nx => ?_) h4 ⟨fun h hm => (hh.ok h hm).hs, fun c hc d hd => absurd hd List.not_mem_nil⟩ ⟨fun h hm => ?_, fun c => Nat.le_refl _⟩ (fun b hb z => ?_)
    · rcases List.mem_cons.mp hb with e1 | hb
      · exact n (by rw [e1]; exact List.mem_cons_self)
      · obtain ⟨h, hm, rfl⟩ := List.mem_map.mp hb
        have := (hh.ok h hm).fr _ (fgd h hm)
        rw [this] at e
        cases e
    · rcases List.mem_append.mp hb with hb | hb
      · simp only [List.mem_cons, List.mem_flatMap] at hb
        rcases hb with e1 | e1 | e1 | ⟨h, hm, hb⟩
        · exact absurd e1 nx
        · rw [e1]
          exact fhd
        · rw [e1]
          show H ln = none
          cases e : H ln with
          | none => rfl
          | some o =>
            by_cases z : ln = x
            · rw [z, o3] at nln; cases nln
            · rw [b3 _ _ e (by simpa using z)] at nln; cases nln
        · exact (hh.ok h hm).fr b (List.mem_append_left _ (List.mem_cons.mpr hb))
      · obtain ⟨c, hc, rfl⟩ := List.mem_map.mp hb
        obtain ⟨k, hk, hm⟩ := frI c hc
        exact (hh.ok k hk).fr _ hm
    · show (B h.nm).hs.notes.length ≤ 0
      rw [(hh.ok h hm).nts]
      exact Nat.le_refl _
    · rcases List.mem_append.mp hb with hb | hb
      · obtain ⟨h, hm, hb⟩ := List.mem_flatMap.mp hb
        refine hh.x h hm ?_
        rw [← z]
        simp only [List.mem_cons, List.not_mem_nil, or_false] at hb
        rcases hb with rfl | rfl | rfl <;> simp [LH.all, LAd.own]
      · obtain ⟨c, hc, rfl⟩ := List.mem_map.mp hb
        obtain ⟨k, hk, hm⟩ := frI c hc
        exact hh.x k hk (by rw [← z]; exact hm)
theorem makP (T : Txt K mg) : C8.Mak P w K mg base 12 "Plain" (PC K) (spPInit K) [] := by
  obtain ⟨fd, G, F⟩ := fnPInit (P := P) (w := w) (base := base) T
  exact ⟨_, fd, pP_Init, [], T.mkr_Plain, G, T.glo_Plain, F.bindsN fun _ _ _ _ _ _ us hl => match us, hl with | [_, _], _ => rfl, .nil⟩
end
end Sw
set_option Elab.async false
set_option linter.all false
set_option maxRecDepth 100000
set_option maxHeartbeats 4000000
/-! plain_at. -/
namespace Sw
open PySem PySem.Spec PyProof.Rows L2
/-- all that a house tells, in four dicts -/
structure Four (H : Hp) (m : Make) (sd ld td cd : Addr) (S : St) : Prop where
  s : ∃ ks, H sd = some (.dK ks) ∧ ∀ h ∈ m.hs, ∃ v, valV ks (Sum.inr h.nm : Key) = some v ∧ StandAt H v (S.hs h.nm).at_ (S.hs h.nm).held
  l : ∃ ks, H ld = some (.dK ks) ∧ ∀ c ∈ m.cs, ∃ a xs, valV ks (Sum.inr c.nm : Key) = some (.ref a) ∧ H a = some (.lst xs) ∧ Ims H xs (S.q c.nm)
  t : ∃ ks, H td = some (.dK ks) ∧ ∀ h ∈ m.hs, ∃ a, valV ks (Sum.inr h.nm : Key) = some (.ref a) ∧ H a = some (.lst ((S.hs h.nm).notes.map V.int))
  c : ∃ ks, H cd = some (.dK ks) ∧ ∀ h ∈ m.hs, valV ks (Sum.inr h.nm : Key) = some (.int (S.hs h.nm).done)
/-- a hand's boxes and notes lie at new places -/
def newA (A : Str → LAd) (n : Str) (hp np : Addr) : Str → LAd := fun k => if k = n then { A k with hd := hp, nt := np } else A k
section
variable {A : Str → LAd} {n k : Str} {hp np : Addr}
theorem nA_p : (newA A n hp np k).p = (A k).p := by unfold newA; split <;> rfl
theorem nA_la : (newA A n hp np k).la = (A k).la := by unfold newA; split <;> rfl
theorem nA_cd : (newA A n hp np k).cd = (A k).cd := by unfold newA; split <;> rfl
theorem nA_gd : (newA A n hp np k).gd = (A k).gd := by unfold newA; split <;> rfl
theorem nA_hd : (newA A n hp np k).hd = if k = n then hp else (A k).hd := by unfold newA; split <;> rfl
theorem nA_nt : (newA A n hp np k).nt = if k = n then np else (A k).nt := by unfold newA; split <;> rfl
theorem nA_ne (h : k ≠ n) : newA A n hp np k = A k := if_neg h
theorem nA_eq : newA A n hp np n = { A n with hd := hp, nt := np } := if_pos rfl
end
theorem Apart.begun {m : Make} {a : PA} (ap : Apart m a) {n : Str} {hp np : Addr} (f1 : hp ∉ a.all m) (f2 : np ∉ a.all m) (ne : hp ≠ np) : Apart m { a with A := newA a.A n hp np } := by
  have q1 : ∀ k ∈ m.hs, ∀ b ∈ (a.A k.nm).p :: (a.A k.nm).own, hp ≠ b := fun k hk b hb z => f1 (by rw [z]; exact all_h hk hb)
  have q2 : ∀ k ∈ m.hs, ∀ b ∈ (a.A k.nm).p :: (a.A k.nm).own, np ≠ b := fun k hk b hb z => f2 (by rw [z]; exact all_h hk hb)
  have mla : ∀ k, (a.A k).la ∈ (a.A k).p :: (a.A k).own := fun k => by simp [LAd.own]
  have mhd : ∀ k, (a.A k).hd ∈ (a.A k).p :: (a.A k).own := fun k => by simp [LAd.own]
  have mcd : ∀ k, (a.A k).cd ∈ (a.A k).p :: (a.A k).own := fun k => by simp [LAd.own]
  have mgd : ∀ k, (a.A k).gd ∈ (a.A k).p :: (a.A k).own := fun k => by simp [LAd.own]
  have mnt : ∀ k, (a.A k).nt ∈ (a.A k).p :: (a.A k).own := fun k => by simp [LAd.own]
  refine ⟨fun h hh k hk e => ap.p1 h hh k hk (by simpa only [nA_p] using e), fun h hh k hk e => ?_, fun h hh k hk e => ?_, fun h hh k hk => ?_, fun h hh k hk => ?_, fun h hh k hk => ?_, fun h hh c hc => ?_, fun h hh c hc => ?_, ap.p9, fun h hh => ⟨?_, ?_, ?_⟩, fun h hh => ?_, ap.p12⟩
  · simp only [nA_hd] at e
    by_cases z1 : h.nm = n <;> by_cases z2 : k.nm = n
    · rw [z1, z2]
    · rw [if_pos z1, if_neg z2] at e
      exact absurd e (q1 k hk _ (mhd _))
    · rw [if_neg z1, if_pos z2] at e
      exact absurd e.symm (q1 h hh _ (mhd _))
    · rw [if_neg z1, if_neg z2] at e
      exact ap.p2 h hh k hk e
  · simp only [nA_nt] at e
    by_cases z1 : h.nm = n <;> by_cases z2 : k.nm = n
    · rw [z1, z2]
    · rw [if_pos z1, if_neg z2] at e
      exact absurd e (q2 k hk _ (mnt _))
    · rw [if_neg z1, if_pos z2] at e
      exact absurd e.symm (q2 h hh _ (mnt _))
    · rw [if_neg z1, if_neg z2] at e
      exact ap.p3 h hh k hk e
  · show (newA a.A n hp np h.nm).la ≠ (newA a.A n hp np k.nm).nt
    rw [nA_la, nA_nt]
    by_cases z2 : k.nm = n
    · rw [if_pos z2]
      exact (q2 h hh _ (mla _)).symm
    · rw [if_neg z2]
      exact ap.p4 h hh k hk
  · show (newA a.A n hp np h.nm).cd ≠ (newA a.A n hp np k.nm).hd
    rw [nA_cd, nA_hd]
    by_cases z2 : k.nm = n
    · rw [if_pos z2]
      exact (q1 h hh _ (mcd _)).symm
    · rw [if_neg z2]
      exact ap.p5 h hh k hk
  · show (newA a.A n hp np h.nm).gd ≠ (newA a.A n hp np k.nm).hd
    rw [nA_gd, nA_hd]
    by_cases z2 : k.nm = n
    · rw [if_pos z2]
      exact (q1 h hh _ (mgd _)).symm
    · rw [if_neg z2]
      exact ap.p6 h hh k hk
  · show a.L c.nm ≠ (newA a.A n hp np h.nm).nt
    rw [nA_nt]
    by_cases z2 : h.nm = n
    · rw [if_pos z2]
      exact fun z => f2 (by rw [← z]; exact all_c hc)
    · rw [if_neg z2]
      exact ap.p7 h hh c hc
  · show a.L c.nm ≠ (newA a.A n hp np h.nm).la
    rw [nA_la]
    exact ap.p8 h hh c hc
  · show a.hd ≠ (newA a.A n hp np h.nm).hd
    rw [nA_hd]
    by_cases z2 : h.nm = n
    · rw [if_pos z2]
      exact fun z => f1 (by rw [← z]; simp [PA.all])
    · rw [if_neg z2]
      exact (ap.p10 h hh).1
  · show a.ln ≠ (newA a.A n hp np h.nm).hd
    rw [nA_hd]
    by_cases z2 : h.nm = n
    · rw [if_pos z2]
      exact fun z => f1 (by rw [← z]; simp [PA.all])
    · rw [if_neg z2]
      exact (ap.p10 h hh).2.1
  · show a.p ≠ (newA a.A n hp np h.nm).p
    rw [nA_p]
    exact (ap.p10 h hh).2.2
  · show a.hd ≠ (newA a.A n hp np h.nm).cd ∧ a.hd ≠ (newA a.A n hp np h.nm).gd
    rw [nA_cd, nA_gd]
    exact ap.p11 h hh
/-- one hand of a house put to a new state -/
theorem HouseAt.begun {K : PySem.W.Frag} {H H' : Hp} {mv kv : V} {m : Make} {a : PA} {S : St} (h : HouseAt K H mv kv m a S) (ok : MOk m) {x : Hd} (hx : x ∈ m.hs) {hp np : Addr} (f1 : H hp = none) (f2 : H np = none) (ne : hp ≠ np)
    (b : But [(a.A x.nm).p] H H') {hs : HS} {kvs : List (Key × V)} (ob : H' (a.A x.nm).p = some (.ins (LC K) (a.A x.nm).dx (loneFs kv { a.A x.nm with hd := hp, nt := np } (hs.at_ : Int) hs.done))) (e1 : H' hp = some (.dK kvs)) (bx : Bx H' kvs hs.held) (e2 : H' np = some (.lst (hs.notes.map V.int))) :
    HouseAt K H' mv kv m { a with A := newA a.A x.nm hp np } ⟨fun n => if n = x.nm then hs else S.hs n, S.q⟩ := by
  have Lx := h.lone x hx
  have nof : ∀ {b : Addr}, H b = none → b ∉ a.all m := fun {b} e hb => h.taken b hb e
  have nop : ∀ {b : Addr} {o : HO}, H b = some o → (∀ C y fs, o ≠ .ins C y fs) → H' b = some o := fun {c o} e n => b _ _ e fun hb => by
    rw [List.mem_singleton] at hb
    rw [hb, Lx.ob] at e
    cases e
    exact n _ _ _ rfl
  have ts : TS H H' := fun c us e => nop e (fun _ _ _ z => by cases z)
  refine ⟨b _ _ h.ob fun hb => (h.ap.p10 x hx).2.2 (by simpa using hb), ?_, nop h.ln (fun _ _ _ z => by cases z), h.im.mono ts, h.ks.mono ts, fun y hy => ?_, ?_, h.ap.begun (nof f1) (nof f2) ne⟩
  · show H' a.hd = some (.dK (hdD m.hs (newA a.A x.nm hp np)))
    have : hdD m.hs (newA a.A x.nm hp np) = hdD m.hs a.A := List.map_congr_left fun y hy => by rw [nA_p]
    rw [this]
    exact nop h.hd (fun _ _ _ z => by cases z)
  · show LoneAt K H' kv (newA a.A x.nm hp np y.nm) y.rows (ciOf m a.L y.nm) (coOf m a.L y.nm) (if y.nm = x.nm then hs else S.hs y.nm)
    by_cases e : y.nm = x.nm
    · obtain rfl := hd_inj ok hy hx e
      rw [if_pos rfl, nA_eq]
      obtain ⟨ls, l1, l2⟩ := Lx.la
      exact ⟨ob, Lx.rw_.mono ts, ⟨ls, nop l1 (fun _ _ _ z => by cases z), l2.mono ts⟩, ⟨kvs, e1, bx⟩, nop Lx.cd (fun _ _ _ z => by cases z), nop Lx.gd (fun _ _ _ z => by cases z), e2⟩
    · rw [if_neg e, nA_ne e]
      have Ly := h.lone y hy
      refine Ly.keep ts fun c hc o eo => ?_
      refine b _ _ eo fun hb => ?_
      rw [List.mem_singleton] at hb
      rcases hc with rfl | rfl | rfl | rfl | rfl | rfl
      · exact e (h.ap.p1 y hy x hx hb)
      · obtain ⟨ls, l1, l2⟩ := Ly.la
        rw [hb, Lx.ob] at l1
        cases l1
      · obtain ⟨ls, l1, l2⟩ := Ly.hd
        rw [hb, Lx.ob] at l1
        cases l1
      · have := Ly.cd
        rw [hb, Lx.ob] at this
        cases this
      · have := Ly.gd
        rw [hb, Lx.ob] at this
        cases this
      · have := Ly.nt
        rw [hb, Lx.ob] at this
        cases this
  · exact h.lines.keep ts fun y hy o e => b _ _ e fun hb => by
      obtain ⟨us, h3, _⟩ := h.lines y hy
      rw [List.mem_singleton] at hb
      rw [hb, Lx.ob] at h3
      cases h3
end Sw
set_option Elab.async false
set_option linter.all false
set_option maxRecDepth 100000
set_option maxHeartbeats 4000000
/-! plain_at: the walk. -/
namespace Sw
open PySem PySem.Spec PyProof.Rows L2
theorem HouseAt.eqv {K : PySem.W.Frag} {H : Hp} {mv kv : V} {m : Make} {a : PA} {S S' : St} (h : HouseAt K H mv kv m a S) (e1 : ∀ x ∈ m.hs, S.hs x.nm = S'.hs x.nm) (e2 : ∀ c ∈ m.cs, S.q c.nm = S'.q c.nm) : HouseAt K H mv kv m a S' := by
  refine { h with lone := fun x hx => by rw [← e1 x hx]; exact h.lone x hx, lines := fun y hy => ?_ }
  obtain ⟨xs, h1, h2⟩ := h.lines y hy
  obtain ⟨c, hc, rfl⟩ := List.mem_map.mp hy
  refine ⟨xs, h1, ?_⟩
  have h2' : Ims H xs (S.q c.nm) := h2
  rw [e2 c hc] at h2'
  exact h2'
theorem HouseAt.sent {K : PySem.W.Frag} {H H' : Hp} {mv kv : V} {m : Make} {a : PA} {S : St} (h : HouseAt K H mv kv m a S) {q' : Qs} (F : ∀ b o, H b = some o → (∀ c ∈ m.cs, b ≠ a.L c.nm) → H' b = some o) (l : Lines H' (lnOf m a.L) q') : HouseAt K H' mv kv m a ⟨S.hs, q'⟩ := by
  have nl : ∀ {b : Addr} {o : HO}, H b = some o → (∀ xs, o ≠ .lst xs) → H' b = some o := fun {b o} e n => F b o e fun c hc z => by
    obtain ⟨xs, e2, _⟩ := h.lines (c.nm, a.L c.nm) (List.mem_map_of_mem (f := fun c : Ch => (c.nm, a.L c.nm)) hc)
    have e3 : H (a.L c.nm) = some (.lst xs) := e2
    rw [z, e3] at e
    cases e
    exact n _ rfl
  have ts : TS H H' := fun b us e => nl e (fun _ z => by cases z)
  refine ⟨nl h.ob (fun _ z => by cases z), nl h.hd (fun _ z => by cases z), nl h.ln (fun _ z => by cases z), h.im.mono ts, h.ks.mono ts, fun x hx => ?_, l, h.ap⟩
  have L := h.lone x hx
  obtain ⟨ls, l1, l2⟩ := L.la
  obtain ⟨kvs, d1, d2⟩ := L.hd
  exact ⟨nl L.ob (fun _ z => by cases z), L.rw_.mono ts, ⟨ls, F _ _ l1 fun c hc => Ne.symm (h.ap.p8 x hx c hc), l2.mono ts⟩, ⟨kvs, nl d1 (fun _ z => by cases z), d2.mono ts⟩, nl L.cd (fun _ z => by cases z), nl L.gd (fun _ z => by cases z), F _ _ L.nt fun c hc => Ne.symm (h.ap.p7 x hx c hc)⟩
section
variable {P : Program} {w : World} {K : PySem.W.Frag} {mg : Str → Option Value} {base : Heap}
def spPPlainAt (K : PySem.W.Frag) : Sp := fun vs H Q _ => ∃ (mv : V) (m : Make) (sd ld td cd : Addr) (S : St), vs = [mv, .ref sd, .ref ld, .ref td, .ref cd] ∧ Im H mv m.d ∧ MOk m ∧ Four H m sd ld td cd S ∧ SOk m S ∧ Bnd m 1000 S ∧
  ∀ (kv : V) (a : PA) (H' : Hp), Same H H' → (∀ b ∈ a.all m, H b = none) → HouseAt K H' mv kv m a S → Q (.ref a.p) H'
theorem calPPlainAt (T : Txt K mg) : C8.Cal P w K mg base 14 "plain_at" (spPPlainAt K) [] := by
  have mPlain := makP (P := P) (w := w) (base := base) T
  refine mkCal (k := 13) T.fPPlainAt scPPlainAt T.glo_plain_at (fun _ _ _ _ _ _ us hl => match us, hl with | [_, _, _, _, _], _ => rfl) (fun vs H Q E h => ?_) (fun cdv A outer s H vs Q E hr h => ?_)
  · obtain ⟨mv, m, sd, ld, td, cd, S, rfl, _⟩ := h
    rfl
  obtain ⟨mv, m, sd, ld, td, cd, S, rfl, im, mok, four, so, bd, q⟩ := h
  have hu := hu_of hr
  refine ⟨_, PSs.nox (pss_cons (ps_set (i := 5) scPPlainAt.nd rfl (Or.inl rfl) (C8.pe_mk mPlain hr (by omega) rfl (pa_cons (pv 0) pa_nil)))
      (pss_cons (ps_for PassesOwn.never rfl (pi_tup (pe_ix (ix_tupK (K := K) rfl) (pv 0) pe_int (fun _ _ => rfl))) (pg_tupK (K := K) (n := 3) rfl rfl (pgs_cons (pg_name (i := 6) scPPlainAt.nd rfl (Or.inl rfl)) (pgs_cons (pg_name (i := 7) scPPlainAt.nd rfl (Or.inl rfl)) (pgs_cons (pg_name (i := 8) scPPlainAt.nd rfl (Or.inl rfl)) pgs_nil))))
        (pss_cons (ps_set (i := 9) scPPlainAt.nd rfl (Or.inl rfl) (pe_dget hu (pe_fld (pv 5) rfl) (pv 6) (fun _ _ => rfl)))
          (pss_cons (ps_fld (pv 9) (pe_ix (ix_tupK (K := K) rfl) (pe_dget hu (pv 1) (pv 6) (fun _ _ => rfl)) pe_int (fun _ _ => rfl)) rfl)
          (pss_cons (ps_fld (pv 9) (pe_callTy call_dictD (by rfl) T.free_dict (by decide +kernel) (pa_cons (pe_ix (ix_tupK (K := K) rfl) (pe_dget hu (pv 1) (pv 6) (fun _ _ => rfl)) pe_int (fun _ _ => rfl)) pa_nil)) rfl)
          (pss_cons (ps_fld (pv 9) (pe_callTy call_list_of (by rfl) T.free_list (by decide +kernel) (pa_cons (pe_dget hu (pv 3) (pv 6) (fun _ _ => rfl)) pa_nil)) rfl)
          (pss_one (ps_fld (pv 9) (pe_dget hu (pv 4) (pv 6) (fun _ _ => rfl)) rfl)))))))
      (pss_cons (ps_lock (ps_for PassesOwn.never rfl (pi_keys (pe_fld (pv 5) rfl)) (pg_name (i := 10) scPPlainAt.nd rfl (Or.inl rfl))
        (pss_one (ps_expr (pe_bm PySem.F.plainAttrs_list PySem.F.slot_list_extend PySem.F.type_list_extend mt_extend (pe_dget hu (pe_fld (pv 5) rfl) (pv 10) (fun _ _ => rfl)) (pa_cons (pe_dget hu (pv 2) (pv 10) (fun _ _ => rfl)) pa_nil))))))
      (pss_one (ps_ret (pv 5)))))), ?_⟩
  refine ⟨_, rfl, fun x dx nx ndx dxx => ?_⟩
  have nx1 : upd H dx (.own x) x = none := by rw [upd_ne (Ne.symm dxx)]; exact nx
  have s1 : Same H (upd (upd H dx (.own x)) x (.ins (PC K) dx [])) := Same.tr (same_new ndx _) (same_new nx1 _)
  refine ⟨x, dx, mv, m, rfl, upd_same, im.mono (ts_same s1), mok, fun kv a S0 H2 ea b2 fr2 ho so0 bd0 mx => ⟨rfl, ?_⟩⟩
  have s2 : Same H H2 := fun b o e => b2 _ _ (s1 _ _ e) fun z => by
    rw [List.mem_singleton] at z
    rw [z, nx] at e
    cases e
  have f2 : ∀ b ∈ a.all m, H b = none := fun b hb => by
    by_cases z : b = x
    · rw [z]; exact nx
    · cases e : H b with
      | none => rfl
      | some o => have := fr2 b hb z; rw [s1 _ _ e] at this; cases this
  clear fr2 b2 mx s1 nx1
  subst ea
  obtain ⟨⟨ks1, hs1, hst⟩, ⟨ks2, hs2, hlt⟩, ⟨ks3, hs3, htl⟩, ⟨ks4, hs4, hct⟩⟩ := four
  obtain ⟨ma, v1, v2, v3, rfl, hma, i1, i2, i3⟩ := id im.t3
  obtain ⟨ca, zs, rfl, hca, izs⟩ := i3.tupE
  let Si : Nat → St := fun i => ⟨fun n => if n ∈ (m.hs.take i).map (·.nm) then S.hs n else S0.hs n, S0.q⟩
  have h00 : ∀ x ∈ m.hs, S0.hs x.nm = (Si 0).hs x.nm := fun x hx => by
    show S0.hs x.nm = if x.nm ∈ (m.hs.take 0).map (·.nm) then S.hs x.nm else S0.hs x.nm
    rw [List.take_zero, if_neg (by rw [List.map_nil]; exact List.not_mem_nil)]
  refine ⟨_, rfl, _, _, _, _, rfl, rfl, SqT.of (s2 _ _ hma), at2, ca, rfl, ⟨_, SqT.of (s2 _ _ hca)⟩,
    for_it (walk_tup (K := K) (a := ca) (xs := zs)) (fun i σ H' => (∃ c1 c2 c3 c4 c5, σ = [some (.ref ma), some (.ref sd), some (.ref ld), some (.ref td), some (.ref cd), some (.ref a.p), c1, c2, c3, c4, c5]) ∧ ∃ A', HouseAt K H' (.ref ma) kv m { a with A := A' } (Si i) ∧ Same H H' ∧ ∀ b ∈ PA.all m { a with A := A' }, H b = none)
    ⟨⟨_, _, _, _, _, rfl⟩, a.A, ho.eqv (S' := Si 0) h00 (fun _ _ => rfl), s2, f2⟩ (fun i σ H' _ hP => by obtain ⟨_, A', _, s, _⟩ := hP; exact SqT.of (s _ _ hca)) ?_ ?_⟩
  · rintro i y σ H3 H4 hi ⟨⟨c1, c2, c3, c4, c5, rfl⟩, A', h3, s3, f3⟩ ⟨rfl, hy⟩
    obtain ⟨e, he, ie⟩ := izs.of hy
    rw [List.getElem?_map] at he
    obtain ⟨h, hhs, rfl⟩ := Option.map_eq_some_iff.mp he
    have hm : h ∈ m.hs := List.mem_of_getElem? hhs
    obtain ⟨ta, w1, w2, w3, rfl, hta, g1, g2, g3⟩ := (ie.mono (ts_same s3)).t3
    cases g1.strE
    have L := h3.lone h hm
    have dgh : DGet H4 a.hd (.str h.nm) (some (.ref (A' h.nm).p)) := hdD_get mok hm ▸ DGet.k (k := Sum.inr h.nm) h3.hd
    obtain ⟨v, hv, t, d, kvs, rfl, ht, hd, bx⟩ := hst h hm
    obtain ⟨tl, htv, hta2⟩ := htl h hm
    have ob0 : H4 (A' h.nm).p = some (.ins (LC K) (A' h.nm).dx (loneFs kv (A' h.nm) (((Si i).hs h.nm).at_ : Int) ((Si i).hs h.nm).done)) := L.ob
    have nep : ∀ {b : Addr} {o : HO}, H b = some o → b ≠ (A' h.nm).p := fun {b o} e z => by
      have := f3 (A' h.nm).p (all_h hm (by simp))
      rw [← z, e] at this
      cases this
    have dgs : ∀ {H' : Hp}, (∀ b o, H b = some o → H' b = some o) → DGet H' sd (.str h.nm) (some (.ref t)) := fun {H'} k => hv ▸ DGet.k (k := Sum.inr h.nm) (k _ _ hs1)
    have dgt : ∀ {H' : Hp}, (∀ b o, H b = some o → H' b = some o) → DGet H' td (.str h.nm) (some (.ref tl)) := fun {H'} k => htv ▸ DGet.k (k := Sum.inr h.nm) (k _ _ hs3)
    have dgc : ∀ {H' : Hp}, (∀ b o, H b = some o → H' b = some o) → DGet H' cd (.str h.nm) (some (.int (S.hs h.nm).done)) := fun {H'} k => hct h hm ▸ DGet.k (k := Sum.inr h.nm) (k _ _ hs4)
    refine ⟨_, _, rfl, SqT.of hta, rfl, _, _, rfl, _, _, rfl, _, _, rfl, rfl, ?_⟩
    refine ⟨_, rfl, a.p, PC K, a.dx, _, _, rfl, h3.ob, T.cls_Plain, T.no_Plain_hands, pf_hands, _, rfl, a.hd, _, rfl, dgh, ?_⟩
    -- at
    refine ⟨_, rfl, _, rfl, sd, _, rfl, dgs s3, _, _, _, _, rfl, rfl, SqT.of (s3 _ _ ht), at0, _, rfl, (A' h.nm).p, LC K, (A' h.nm).dx, _, rfl, ob0, T.cls_Lone, T.no_Lone_at, (by show 9 < 1000; decide), ?_⟩
    rw [pf_at]
    generalize e5 : upd H4 (A' h.nm).p (.ins (LC K) (A' h.nm).dx (loneFs kv (A' h.nm) ((S.hs h.nm).at_ : Int) ((Si i).hs h.nm).done)) = H5
    have o5 : H5 (A' h.nm).p = some (.ins (LC K) (A' h.nm).dx (loneFs kv (A' h.nm) ((S.hs h.nm).at_ : Int) ((Si i).hs h.nm).done)) := by rw [← e5]; exact upd_same
    have b5 : But [(A' h.nm).p] H4 H5 := by rw [← e5]; exact But.refl.put (by simp) _
    have kb : ∀ {H' : Hp}, But [(A' h.nm).p] H4 H' → ∀ b o, H b = some o → H' b = some o := fun {H'} k b o e => k _ _ (s3 _ _ e) fun z => nep e (by simpa using z)
    -- held
    refine ⟨_, rfl, _, rfl, sd, _, rfl, dgs (kb b5), _, _, _, _, rfl, rfl, SqT.of (kb b5 _ _ ht), at1, d, kvs, rfl, .inl (kb b5 _ _ hd), fun hp nhp => ?_⟩
    have s5 : Same H5 (upd H5 hp (.dK kvs)) := same_new nhp _
    have hpp : hp ≠ (A' h.nm).p := fun z => by rw [z, o5] at nhp; cases nhp
    refine ⟨_, rfl, (A' h.nm).p, LC K, (A' h.nm).dx, _, rfl, s5 _ _ o5, T.cls_Lone, T.no_Lone_held, (by show 9 < 1000; decide), ?_⟩
    rw [pf_held]
    generalize e6 : upd (upd H5 hp (.dK kvs)) (A' h.nm).p (.ins (LC K) (A' h.nm).dx (loneFs kv { A' h.nm with hd := hp } ((S.hs h.nm).at_ : Int) ((Si i).hs h.nm).done)) = H6
    have o6 : H6 (A' h.nm).p = some (.ins (LC K) (A' h.nm).dx (loneFs kv { A' h.nm with hd := hp } ((S.hs h.nm).at_ : Int) ((Si i).hs h.nm).done)) := by rw [← e6]; exact upd_same
    have b6 : But [(A' h.nm).p] H4 H6 := by rw [← e6]; exact (b5.trans (.same s5)).put (by simp) _
    have hp6 : H6 hp = some (.dK kvs) := by rw [← e6, upd_ne hpp]; exact upd_same
    -- notes
    refine ⟨_, rfl, _, rfl, td, _, rfl, dgt (kb b6), tl, _, rfl, .inl (SqL.of (kb b6 _ _ hta2)), fun np nnp => ?_⟩
    have s6 : Same H6 (upd H6 np (.lst ((S.hs h.nm).notes.map V.int))) := same_new nnp _
    have npp : np ≠ (A' h.nm).p := fun z => by rw [z, o6] at nnp; cases nnp
    have nphp : hp ≠ np := fun z => by rw [← z, hp6] at nnp; cases nnp
    refine ⟨_, rfl, (A' h.nm).p, LC K, (A' h.nm).dx, _, rfl, s6 _ _ o6, T.cls_Lone, T.no_Lone_notes, (by show 9 < 1000; decide), ?_⟩
    rw [pf_notes]
    generalize e7 : upd (upd H6 np (.lst ((S.hs h.nm).notes.map V.int))) (A' h.nm).p (.ins (LC K) (A' h.nm).dx (loneFs kv { { A' h.nm with hd := hp } with nt := np } ((S.hs h.nm).at_ : Int) ((Si i).hs h.nm).done)) = H7
    have o7 : H7 (A' h.nm).p = some (.ins (LC K) (A' h.nm).dx (loneFs kv { A' h.nm with hd := hp, nt := np } ((S.hs h.nm).at_ : Int) ((Si i).hs h.nm).done)) := by rw [← e7]; exact upd_same
    have b7 : But [(A' h.nm).p] H4 H7 := by rw [← e7]; exact (b6.trans (.same s6)).put (by simp) _
    have hp7 : H7 hp = some (.dK kvs) := by rw [← e7, upd_ne hpp]; exact s6 _ _ hp6
    have np7 : H7 np = some (.lst ((S.hs h.nm).notes.map V.int)) := by rw [← e7, upd_ne npp]; exact upd_same
    -- done
    refine ⟨_, rfl, _, rfl, cd, _, rfl, dgc (kb b7), _, rfl, (A' h.nm).p, LC K, (A' h.nm).dx, _, rfl, o7, T.cls_Lone, T.no_Lone_done, (by show 9 < 1000; decide), ?_⟩
    rw [pf_done]
    generalize e8 : upd H7 (A' h.nm).p (.ins (LC K) (A' h.nm).dx (loneFs kv { A' h.nm with hd := hp, nt := np } ((S.hs h.nm).at_ : Int) (S.hs h.nm).done)) = H8
    have o8 : H8 (A' h.nm).p = some (.ins (LC K) (A' h.nm).dx (loneFs kv { A' h.nm with hd := hp, nt := np } ((S.hs h.nm).at_ : Int) (S.hs h.nm).done)) := by rw [← e8]; exact upd_same
    have b8 : But [(A' h.nm).p] H4 H8 := by rw [← e8]; exact b7.put (by simp) _
    have hp8 : H8 hp = some (.dK kvs) := by rw [← e8, upd_ne hpp]; exact hp7
    have np8 : H8 np = some (.lst ((S.hs h.nm).notes.map V.int)) := by rw [← e8, upd_ne npp]; exact np7
    have f4 : ∀ {b : Addr} {H' : Hp}, But [(A' h.nm).p] H4 H' → H' b = none → b ≠ (A' h.nm).p → H4 b = none := fun {b H'} bt n nx => by
      cases e : H4 b with
      | none => rfl
      | some o => rw [bt _ _ e (by simpa using nx)] at n; cases n
    have fhp := f4 b5 nhp hpp
    have fnp := f4 b6 nnp npp
    have f40 : ∀ {b : Addr}, H4 b = none → H b = none := fun {b} n => by
      cases e : H b with
      | none => rfl
      | some o => rw [s3 _ _ e] at n; cases n
    have bg := h3.begun mok hm (hs := S.hs h.nm) fhp fnp nphp b8 o8 hp8 (bx.mono (ts_same (kb b8))) np8
    refine ⟨⟨_, _, _, _, _, rfl⟩, newA A' h.nm hp np, bg.eqv (fun k hk => ?_) (fun _ _ => rfl), kb b8, fun b hb => ?_⟩
    · have tk : (m.hs.take (i + 1)).map (·.nm) = (m.hs.take i).map (·.nm) ++ [h.nm] := by rw [List.take_succ, hhs, List.map_append]; rfl
      show (if k.nm = h.nm then S.hs h.nm else if k.nm ∈ (m.hs.take i).map (·.nm) then S.hs k.nm else S0.hs k.nm) = if k.nm ∈ (m.hs.take (i + 1)).map (·.nm) then S.hs k.nm else S0.hs k.nm
      by_cases z : k.nm = h.nm
      · rw [if_pos z, if_pos (by rw [tk, z]; exact List.mem_append_right _ List.mem_cons_self), z]
      · rw [if_neg z]
        have : k.nm ∈ (m.hs.take (i + 1)).map (·.nm) ↔ k.nm ∈ (m.hs.take i).map (·.nm) := by
          rw [tk, List.mem_append, List.mem_singleton]
          exact ⟨fun q => q.resolve_right z, .inl⟩
        simp only [this]
    · have old : b ∈ PA.all m { a with A := A' } ∨ b = hp ∨ b = np := by
        rcases List.mem_append.mp hb with hb | hb
        · simp only [List.mem_cons, List.mem_flatMap] at hb
          rcases hb with e | e | e | ⟨k, hk, hb⟩
          · exact .inl (by rw [e]; simp [PA.all])
          · exact .inl (by rw [e]; simp [PA.all])
          · exact .inl (by rw [e]; simp [PA.all])
          · by_cases z : k.nm = h.nm
            · rw [z, nA_eq] at hb
              simp only [LAd.own, List.mem_cons, List.not_mem_nil, or_false] at hb
              have ah : ∀ b ∈ (A' h.nm).p :: (A' h.nm).own, b ∈ PA.all m { a with A := A' } := fun b hb => all_h hm hb
              rcases hb with e | e | e | e | e | e
              · exact .inl (ah _ (by rw [e]; simp [LAd.own]))
              · exact .inl (ah _ (by rw [e]; simp [LAd.own]))
              · exact .inr (.inl e)
              · exact .inl (ah _ (by rw [e]; simp [LAd.own]))
              · exact .inl (ah _ (by rw [e]; simp [LAd.own]))
              · exact .inr (.inr e)
            · rw [nA_ne z] at hb
              exact .inl (all_h hk (List.mem_cons.mpr hb))
        · exact .inl (List.mem_append_right _ hb)
      rcases old with h1 | rfl | rfl
      · exact f3 b h1
      · exact f40 fhp
      · exact f40 fnp
  · rintro σ H3 ⟨⟨c1, c2, c3, c4, c5, rfl⟩, A', h3, s3, f3⟩
    have zl := izs.length
    rw [List.length_map] at zl
    have h3 := h3.eqv (S' := ⟨S.hs, S0.q⟩) (fun x hx => if_pos (by rw [List.take_of_length_le (by omega)]; exact List.mem_map_of_mem (f := (·.nm)) hx)) (fun _ _ => rfl)
    have lnl : ∀ c ∈ m.cs, ∃ xs, H3 (a.L c.nm) = some (.lst xs) := fun c hc => by
      obtain ⟨xs, e, _⟩ := h3.lines (c.nm, a.L c.nm) (List.mem_map_of_mem (f := fun c : Ch => (c.nm, a.L c.nm)) hc)
      exact ⟨xs, e⟩
    have h3ln : H3 a.ln = some (.dK (lnD (lnOf m a.L))) := h3.ln
    have h3ob : H3 a.p = some (.ins (PC K) a.dx (plFs (.ref ma) a.hd a.ln)) := h3.ob
    have nln : ∀ c ∈ m.cs, a.ln ≠ a.L c.nm := fun c hc z => by
      obtain ⟨xs, e⟩ := lnl c hc
      rw [← z, h3ln] at e
      cases e
    have npl : ∀ c ∈ m.cs, a.p ≠ a.L c.nm := fun c hc z => by
      obtain ⟨xs, e⟩ := lnl c hc
      rw [← z, h3ob] at e
      cases e
    have pnl : a.p ≠ a.ln := fun z => by rw [z, h3ln] at h3ob; cases h3ob
    have fL : ∀ c ∈ m.cs, H (a.L c.nm) = none := fun c hc => f3 _ (all_c (a := { a with A := A' }) hc)
    have fln : H a.ln = none := f3 _ (by simp [PA.all])
    refine ⟨a.ln, _, h3ln, trivial, fun od => ?_⟩
    have kk : ∀ (H' : Hp), (∀ b o, H3 b = some o → b ≠ a.ln → (∀ c ∈ m.cs, b ≠ a.L c.nm) → H' b = some o) → Same H H' := fun H' F b o e => F _ _ (s3 _ _ e) (fun z => by rw [z, fln] at e; cases e) fun c hc z => by rw [z, fL c hc] at e; cases e
    refine ⟨_, rfl, a.p, PC K, a.dx, _, _, rfl, (by rw [upd_ne pnl]; exact h3ob), T.cls_Plain, T.no_Plain_lines, pf_lines, a.ln, od, rfl, .inl ⟨_, upd_same,
      for_it (walk_keys (d := a.ln) (o := od) (kvs := lnD (lnOf m a.L))) (fun i σ H' => (∃ c1 c2 c3 c4 c5, σ = [some (.ref ma), some (.ref sd), some (.ref ld), some (.ref td), some (.ref cd), some (.ref a.p), c1, c2, c3, c4, c5]) ∧
        (∀ b o, H3 b = some o → b ≠ a.ln → (∀ c ∈ m.cs, b ≠ a.L c.nm) → H' b = some o) ∧ H' a.ln = some (.frz od (.dK (lnD (lnOf m a.L)))) ∧ ∀ j c, m.cs[j]? = some c → ∃ xs, H' (a.L c.nm) = some (.lst xs) ∧ Ims H' xs (if j < i then S.q c.nm else []))
      ⟨⟨_, _, _, _, _, rfl⟩, fun b o e n _ => by rw [upd_ne n]; exact e, upd_same, fun j c hj => ?_⟩ (fun i σ H' _ hP => hP.2.2.1) ?_ ?_⟩⟩
    · have hc := List.mem_of_getElem? hj
      obtain ⟨xs, e, ie⟩ := h3.lines (c.nm, a.L c.nm) (List.mem_map_of_mem (f := fun c : Ch => (c.nm, a.L c.nm)) hc)
      have q0 : S0.q c.nm = [] := List.length_eq_zero_iff.mp (Nat.le_zero.mp (bd0.2 c.nm))
      have ie' : Ims H3 xs (S0.q c.nm) := ie
      rw [q0] at ie'
      cases ie'
      refine ⟨[], (by rw [upd_ne (Ne.symm (nln c hc))]; exact e), ?_⟩
      rw [if_neg (Nat.not_lt_zero j)]
      exact .nil
    · rintro i y σ H4 H5 hi ⟨⟨c1, c2, c3, c4, c5, rfl⟩, F, hfz, hl⟩ ⟨rfl, k, v, hx, rfl⟩
      rw [lnD, List.getElem?_map, lnOf, List.getElem?_map, Option.map_map] at hx
      obtain ⟨c, hc, e⟩ := Option.map_eq_some_iff.mp hx
      injection e with e1 e2
      subst e1
      have cm := List.mem_of_getElem? hc
      have s5 := kk _ F
      obtain ⟨l, zs2, hv2, hl2, iz2⟩ := hlt c cm
      obtain ⟨xs, hxs, ixs⟩ := hl i c hc
      rw [if_neg (Nat.lt_irrefl i)] at ixs
      cases ixs
      have gv : valV (lnD (lnOf m a.L)) (Sum.inr c.nm : Key) = some (.ref (a.L c.nm)) := lnD_get (ls := lnOf m a.L) (x := (c.nm, a.L c.nm)) (by rw [lnOf, List.map_map]; exact mok.cn) (List.mem_map_of_mem (f := fun c : Ch => (c.nm, a.L c.nm)) cm)
      have dgl : DGet H5 a.ln (.str c.nm) (some (.ref (a.L c.nm))) := .inl ⟨_, Sum.inr c.nm, .inr ⟨od, hfz⟩, rfl, gv.symm⟩
      have dg2 : DGet H5 ld (.str c.nm) (some (.ref l)) := hv2 ▸ DGet.k (k := Sum.inr c.nm) (s5 _ _ hs2)
      have obp : H5 a.p = some (.ins (PC K) a.dx (plFs (.ref ma) a.hd a.ln)) := F _ _ h3ob pnl npl
      have qb := bd.2 c.nm
      have zl2 := iz2.length
      refine ⟨_, rfl, a.p, PC K, a.dx, _, _, rfl, obp, T.cls_Plain, T.no_Plain_lines, pf_lines, _, rfl, a.ln, _, rfl, dgl, .inl ⟨rfl, _, SqL.of hxs⟩, _, rfl, _, rfl, ld, _, rfl, dg2, a.L c.nm, l, [], zs2, rfl, rfl, hxs, s5 _ _ hl2, Nat.le_of_lt (small1000 (by rw [List.length_nil]; omega)), ?_⟩
      have tsu : ∀ {us : List V}, TS H5 (upd H5 (a.L c.nm) (.lst us)) := fun {us} b vs e => by rw [upd_ne (fun z => by rw [z, hxs] at e; cases e)]; exact e
      refine ⟨⟨_, _, _, _, _, rfl⟩, fun b o e n1 n2 => ?_, ?_, fun j c2 hj => ?_⟩
      · rw [upd_ne (n2 c cm)]
        exact F b o e n1 n2
      · rw [upd_ne (nln c cm)]
        exact hfz
      · have cm2 := List.mem_of_getElem? hj
        by_cases z : j = i
        · subst z
          rw [hc] at hj
          cases hj
          refine ⟨_, upd_same, ?_⟩
          rw [if_pos (Nat.lt_succ_self j), List.nil_append]
          exact (iz2.mono (ts_same s5)).mono tsu
        · obtain ⟨xs2, e1, e2⟩ := hl j c2 hj
          refine ⟨xs2, ?_, ?_⟩
          · rw [upd_ne (fun en => z ?_)]
            · exact e1
            · have en2 := h3.ap.p9 c2 cm2 c cm en
              have h2 : (m.cs.map (·.nm))[j]? = (m.cs.map (·.nm))[i]? := by
                rw [List.getElem?_map, List.getElem?_map, hj, hc]
                exact congrArg some en2
              have hjl := (List.getElem?_eq_some_iff.mp hj).1
              exact (List.getElem?_inj (by rw [List.length_map]; exact hjl) mok.cn).mp h2
          · have : (j < i + 1) = (j < i) := by rw [eq_iff_iff]; omega
            simp only [this]
            exact e2.mono tsu
    · rintro σ H4 ⟨⟨c1, c2, c3, c4, c5, rfl⟩, F, hfz, hl⟩
      refine ⟨hfz, ?_⟩
      refine ⟨_, rfl, ?_⟩
      have ll : (lnD (lnOf m a.L)).length = m.cs.length := by rw [lnD, lnOf, List.length_map, List.length_map]
      rw [ll] at hl
      have F2 : ∀ b o, H3 b = some o → (∀ c ∈ m.cs, b ≠ a.L c.nm) → upd H4 a.ln (.dK (lnD (lnOf m a.L))) b = some o := fun b o e n => by
        by_cases z : b = a.ln
        · rw [z] at e ⊢
          rw [upd_same, ← e]
          exact h3ln.symm
        · rw [upd_ne z]
          exact F b o e z n
      have ts4 : TS H4 (upd H4 a.ln (.dK (lnD (lnOf m a.L)))) := fun b us e => by rw [upd_ne (fun z => by rw [z, hfz] at e; cases e)]; exact e
      have hf := h3.sent (q' := S.q) F2 fun y hy => by
        obtain ⟨c, hc, rfl⟩ := List.mem_map.mp hy
        obtain ⟨j, hj, ej⟩ := List.mem_iff_getElem.mp hc
        obtain ⟨xs, e1, e2⟩ := hl j c (by rw [List.getElem?_eq_getElem hj, ej])
        rw [if_pos hj] at e2
        exact ⟨xs, (by show upd _ _ _ (a.L c.nm) = _; rw [upd_ne (Ne.symm (nln c hc))]; exact e1), e2.mono ts4⟩
      exact q kv { a with A := A' } _ (fun b o e => F2 _ _ (s3 _ _ e) fun c hc z => by rw [z, fL c hc] at e; cases e) f3 hf
end
end Sw
set_option Elab.async false
set_option linter.all false
set_option maxRecDepth 100000
set_option maxHeartbeats 4000000
/-! The law's draws: feed, take, number. -/
namespace Sw
open PySem PySem.Spec PyProof.Rows L2
/-- a feed lies there -/
def Feed (H : Hp) (f : Addr) : Prop := ∃ x y : Int, H f = some (.lst [.int x, .int y]) ∧ 0 ≤ y ∧ y < 2147483648
/-- a draw: all but the feed stays -/
def Go (f : Addr) (H H' : Hp) : Prop := But [f] H H' ∧ Feed H' f
theorem Go.refl {f : Addr} {H : Hp} (h : Feed H f) : Go f H H := ⟨.refl, h⟩
theorem Go.tr {f : Addr} {H H1 H2 : Hp} (a : Go f H H1) (b : Go f H1 H2) : Go f H H2 := ⟨a.1.trans b.1, b.2⟩
theorem Go.sm {f : Addr} {H H1 H2 : Hp} (a : Go f H H1) (b : Same H1 H2) : Go f H H2 := ⟨a.1.trans (.same b), let ⟨x, y, h, q⟩ := a.2; ⟨x, y, b _ _ h, q⟩⟩
theorem Feed.same {f : Addr} {H H' : Hp} (a : Feed H f) (b : Same H H') : Feed H' f := let ⟨x, y, h, q⟩ := a; ⟨x, y, b _ _ h, q⟩
theorem Go.of {f : Addr} {H H' : Hp} (a : Feed H f) (b : Same H H') : Go f H H' := ⟨.same b, a.same b⟩
theorem Feed.ts {f : Addr} {H H' : Hp} (h : Feed H f) (g : Go f H H') : TS H H' := g.1.ts fun b hb xs e => by
  rw [List.mem_singleton] at hb
  obtain ⟨x, y, h1, _⟩ := h
  rw [hb, h1] at e
  cases e
/-- a place other than the feed stays -/
theorem Go.at {f : Addr} {H H' : Hp} (g : Go f H H') {b : Addr} {o : HO} (e : H b = some o) (n : b ≠ f) : H' b = some o := g.1 _ _ e (by simpa using n)
theorem Feed.ne {f b : Addr} {H : Hp} (h : Feed H f) (e : H b = none) : b ≠ f := fun z => by
  obtain ⟨x, y, h1, _⟩ := h
  rw [z, h1] at e
  cases e
theorem Feed.put {f b : Addr} {H : Hp} {o : HO} (h : Feed H f) (n : b ≠ f) : Feed (upd H b o) f := by
  obtain ⟨x, y, h1, h2⟩ := h
  exact ⟨x, y, (by rw [upd_ne (Ne.symm n)]; exact h1), h2⟩
section
variable {P : Program} {w : World} {K : PySem.W.Frag} {mg : Str → Option Value} {base : Heap}
theorem qz2 : (0 : Int) < 2 := by decide
theorem qm1 : (0 : Int) < 2147483629 := by decide
theorem qm2 : (0 : Int) < 2147483646 := by decide
theorem qm3 : (0 : Int) < 2147483647 := by decide
theorem mulw {i j : Int} (h1 : 0 ≤ i ∧ i < 4611686018427387904) (h2 : 0 ≤ j ∧ j < 4611686018427387904) : CMulW i j := wide_mul (a := 62) (b := 62) (by omega) (by omega) (by decide) (by decide) (by decide)
theorem divw {i j : Int} (h : 0 < j) (h2 : j < 4611686018427387904) : CDivW i j := wide_div (b := 62) h (by omega) (by decide) (by decide)
def spGFeed (K : PySem.W.Frag) : Sp := fun vs H Q _ => ∃ (a : Addr) (ns : List Int) (k : Nat), vs = [.ref a, .int (k : Int)] ∧ SqL K H a (ns.map V.int) ∧ ns.length ≤ 63 ∧ k ≤ 1000 ∧
  ∀ (f : Addr) (H' : Hp), H f = none → Same H H' → Feed H' f → Q (.ref f) H'
theorem calGFeed (T : Txt K mg) : C8.Cal P w K mg base 1 "_law_feed" (spGFeed K) [] := by
  refine mkCal (k := 0) T.fGFeed scGFeed T.glo__law_feed (fun _ _ _ _ _ _ us hl => match us, hl with | [_, _], _ => rfl) (fun vs H Q E h => ?_) (fun cdv A outer s H vs Q E hr h => ?_)
  · obtain ⟨a, ns, k, rfl, _⟩ := h
    rfl
  obtain ⟨a, ns, k, rfl, ha, nl, kl, q⟩ := h
  have hu := hu_of hr
  refine ⟨_, PSs.nox (pss_cons (ps_set (i := 2) scGFeed.nd rfl (Or.inl rfl) pe_int)
      (C8.pss_cut (ps_if (pt_cmpR op_lt (pv 1) (pe_callB (call_len_seqK (K := K) rfl) (by rfl) T.free_len PySem.boot_len (pa_cons (pv 0) pa_nil)) (nomark _)) (pss_one (ps_set (i := 2) scGFeed.nd rfl (Or.inl rfl) (pe_ix (ix_listK (K := K) rfl) (pv 0) (pv 1) (fun _ _ => rfl)))) pss_nil)
      (C8.pss_cut (ps_if (PW.pt (pw_and (pt_cmpR op_gt (pe_callB (call_len_seqK (K := K) rfl) (by rfl) T.free_len PySem.boot_len (pa_cons (pv 0) pa_nil)) pe_int (nomark _)) (pw_and1 (pt_cmpR op_eq (pe_op op_mod (pe_ix (ix_listK (K := K) rfl) (pv 0) pe_int (fun _ _ => rfl)) pe_int) pe_int (nomark _))))) (pss_one (ps_ret (pe_lst (pa_cons (pv 2) (pa_cons (pe_op op_add (pe_op op_mod (pe_op op_add (pe_op op_mulW (pe_op op_mod (pv 2) pe_int) pe_int) (pe_op op_mulW pe_int (pv 1))) pe_int) pe_int) pa_nil))))) pss_nil)
      (C8.pss_cut (ps_if (PW.pt (pw_and (pt_cmpR op_ge (pv 1) (pe_callB (call_len_seqK (K := K) rfl) (by rfl) T.free_len PySem.boot_len (pa_cons (pv 0) pa_nil)) (nomark _)) (pw_and1 (pt_cmpR op_gt (pe_callB (call_len_seqK (K := K) rfl) (by rfl) T.free_len PySem.boot_len (pa_cons (pv 0) pa_nil)) pe_int (nomark _))))) (pss_one (ps_set (i := 2) scGFeed.nd rfl (Or.inl rfl) (pe_op op_add (pe_ix (ix_listK (K := K) rfl) (pv 0) (pe_op op_mod (pv 1) (pe_callB (call_len_seqK (K := K) rfl) (by rfl) T.free_len PySem.boot_len (pa_cons (pv 0) pa_nil))) (fun _ _ => rfl)) (pe_op op_mulW pe_int (pv 1))))) pss_nil)
      (pss_one (ps_ret (pe_lst (pa_cons pe_int (pa_cons (pe_op op_add (pe_op op_mod (pe_op op_add (pe_op op_mulW (pe_op op_mod (pv 2) pe_int) pe_int) (pe_op op_mulW pe_int (pv 1))) pe_int) pe_int) pa_nil))))))))), ?_⟩
  refine ⟨fun σ' H' => (∃ c : Int, σ' = [some (.ref a), some (.int (k : Int)), some (.int c)]) ∧ H' = H, ?_, ?_⟩
  · refine ⟨_, rfl, _, rfl, a, _, rfl, .inl ha, _, _, rfl, rfl, _, rfl, ite2 (fun d => ?_) (fun d => ?_)⟩
    · have hlt := of_decide_eq_true d
      rw [List.length_map] at hlt
      obtain ⟨c, hc⟩ : ∃ c, ns[k]? = some c := ⟨_, List.getElem?_eq_getElem (by omega)⟩
      refine ⟨_, rfl, _, rfl, _, _, _, _, rfl, rfl, ha, atI_nat (by rw [List.getElem?_map, hc]; rfl), ⟨c, rfl⟩, rfl⟩
    · exact ⟨⟨0, rfl⟩, rfl⟩
  rintro σ1 H1 ⟨⟨c, rfl⟩, rfl⟩
  have second : ∀ c : Int, 0 ≤ (c % 2147483629 * 48271 + 40692 * (k : Int)) % 2147483646 + 1 ∧ (c % 2147483629 * 48271 + 40692 * (k : Int)) % 2147483646 + 1 < 2147483648 := fun c => by omega
  have m1 : ∀ c : Int, CMulW (c % 2147483629) 48271 := fun c => mulw (by omega) (by omega)
  have m2 : CMulW 40692 (k : Int) := mulw (by omega) (by omega)
  have fin : ∀ (c x : Int) (l : Addr), H1 l = none → Q (.ref l) (upd H1 l (.lst [.int x, .int ((c % 2147483629 * 48271 + 40692 * (k : Int)) % 2147483646 + 1)])) := fun c x l nl => q l _ nl (same_new nl _) ⟨_, _, upd_same, second c⟩
  refine ⟨fun σ' H' => σ' = [some (.ref a), some (.int (k : Int)), some (.int c)] ∧ H' = H1, ?_, ?_⟩
  · refine ⟨_, rfl, a, _, rfl, .inl ha, _, _, rfl, rfl, _, rfl, ite2 (fun d => ?_) (fun d => iteF ⟨rfl, rfl⟩)⟩
    have hlt := of_decide_eq_true d
    rw [List.length_map] at hlt
    obtain ⟨c0, hc⟩ : ∃ c, ns[0]? = some c := ⟨_, List.getElem?_eq_getElem (by omega)⟩
    refine ⟨_, rfl, _, _, _, _, rfl, rfl, ha, atI_nat (j := 0) (by rw [List.getElem?_map, hc]; rfl), _, _, rfl, rfl, qz2, rfl, _, rfl, ite2 (fun d => ?_) (fun d => ⟨rfl, rfl⟩)⟩
    exact ⟨_, rfl, _, rfl, _, _, rfl, rfl, qm1, _, _, rfl, rfl, m1 c, _, rfl, _, _, rfl, rfl, m2, _, _, rfl, rfl, _, _, rfl, rfl, qm2, _, _, rfl, rfl, sz, fun l nl => fin c c l nl⟩
  rintro σ2 H2 ⟨rfl, rfl⟩
  refine ⟨fun σ' H' => (∃ c : Int, σ' = [some (.ref a), some (.int (k : Int)), some (.int c)]) ∧ H' = H2, ?_, ?_⟩
  · refine ⟨_, rfl, _, rfl, a, _, rfl, .inl ha, _, _, rfl, rfl, _, rfl, ite2 (fun d => ?_) (fun d => iteF ⟨⟨c, rfl⟩, rfl⟩)⟩
    refine ⟨_, rfl, a, _, rfl, .inl ha, _, _, rfl, rfl, _, rfl, ite2 (fun d => ?_) (fun d => ⟨⟨c, rfl⟩, rfl⟩)⟩
    have hlt := of_decide_eq_true d
    rw [List.length_map] at hlt
    have hm : (k : Int) % ((ns.length : Nat) : Int) = ((k % ns.length : Nat) : Int) := by omega
    obtain ⟨c0, hc⟩ : ∃ c, ns[k % ns.length]? = some c := ⟨_, List.getElem?_eq_getElem (Nat.mod_lt _ (by omega))⟩
    refine ⟨_, rfl, _, rfl, _, rfl, a, _, rfl, .inl ha, _, _, rfl, rfl, (by rw [List.length_map]; exact hlt), _, _, _, V.int c0, rfl, rfl, ha, ?_, _, rfl, _, _, rfl, rfl, mulw (by omega) (by omega), _, _, rfl, rfl, ⟨_, rfl⟩, rfl⟩
    · rw [List.length_map, hm]
      exact atI_nat (by rw [List.getElem?_map, hc]; rfl)
  rintro σ3 H3 ⟨⟨c3, rfl⟩, rfl⟩
  exact ⟨_, rfl, _, _, rfl, rfl, qm1, _, _, rfl, rfl, m1 c3, _, rfl, _, _, rfl, rfl, m2, _, _, rfl, rfl, _, _, rfl, rfl, qm2, _, _, rfl, rfl, sz, fun l nl => fin c3 0 l nl⟩
def spGTake : Sp := fun vs H Q _ => ∃ (f : Addr) (n : Int), vs = [.ref f, .int n] ∧ Feed H f ∧ 0 < n ∧ n ≤ 4294967296 ∧ ∀ (r : Int) (H' : Hp), 0 ≤ r → r < n → Go f H H' → Q (.int r) H'
theorem calGTake (T : Txt K mg) : C8.Cal P w K mg base 1 "_law_take" spGTake [] := by
  refine mkCal (k := 0) T.fGTake scGTake T.glo__law_take (fun _ _ _ _ _ _ us hl => match us, hl with | [_, _], _ => rfl) (fun vs H Q E h => ?_) (fun cdv A outer s H vs Q E hr h => ?_)
  · obtain ⟨f, n, rfl, _⟩ := h
    rfl
  obtain ⟨f, n, rfl, hf, n0, n1, q⟩ := h
  have hu := hu_of hr
  obtain ⟨x, y, hxy, y0, y1⟩ := id hf
  refine ⟨_, PSs.nox (pss_cons (ps_if (pt_cmpR op_gt (pe_ix (ix_listK (K := K) rfl) (pv 0) pe_int (fun _ _ => rfl)) pe_int (nomark _)) (pss_cons (ps_set (i := 2) scGTake.nd rfl (Or.inl rfl) (pe_op op_mod (pe_ix (ix_listK (K := K) rfl) (pv 0) pe_int (fun _ _ => rfl)) (pv 1)))
        (pss_cons (ps_asg (pe_op op_fdivW (pe_ix (ix_listK (K := K) rfl) (pv 0) pe_int (fun _ _ => rfl)) (pv 1)) (pg_sub (pv 0) pe_int set_list))
        (pss_one (ps_ret (pv 2))))) pss_nil)
      (pss_cons (ps_set (i := 3) scGTake.nd rfl (Or.inl rfl) (pe_op op_mod (pe_op op_mulW (pe_ix (ix_listK (K := K) rfl) (pv 0) pe_int (fun _ _ => rfl)) pe_int) pe_int))
      (pss_cons (ps_asg (pe_op op_add (pe_op op_mod (pe_op op_add (pe_op op_mulW (pv 3) pe_int) pe_int) pe_int) pe_int) (pg_sub (pv 0) pe_int set_list))
      (pss_one (ps_ret (pe_op op_mod (pe_op op_fdivW (pe_op op_add (pe_op op_mulW (pv 3) pe_int) (pe_ix (ix_listK (K := K) rfl) (pv 0) pe_int (fun _ _ => rfl))) pe_int) (pv 1))))))), ?_⟩
  refine ⟨_, rfl, _, _, _, _, rfl, rfl, SqL.of hxy, at0, _, _, rfl, rfl, _, rfl, ite2 (fun d => ?_) (fun d => ?_)⟩
  · refine ⟨_, rfl, _, _, _, _, rfl, rfl, SqL.of hxy, at0, _, rfl, _, _, rfl, rfl, n0, _, rfl, _, _, _, _, rfl, rfl, SqL.of hxy, at0, _, rfl, _, _, rfl, rfl, divw n0 (by omega), ?_⟩
    refine ⟨_, rfl, f, _, _, 0, rfl, rfl, hxy, rfl, _, rfl, ?_⟩
    exact q _ _ (Int.emod_nonneg _ (by omega)) (Int.emod_lt_of_pos _ n0) ⟨But.refl.put (by simp) _, _, y, upd_same, y0, y1⟩
  · have l0 : 0 ≤ y * 69621 % 2147483647 ∧ y * 69621 % 2147483647 < 2147483647 := by omega
    refine ⟨_, rfl, _, _, _, _, rfl, rfl, SqL.of hxy, at1, _, _, rfl, rfl, mulw (by omega) (by omega), _, _, rfl, rfl, qm3, ?_⟩
    have l1 : 0 ≤ (y * 69621 % 2147483647 * 48271 + 30103) % 2147483646 + 1 ∧ (y * 69621 % 2147483647 * 48271 + 30103) % 2147483646 + 1 < 2147483648 := by omega
    refine ⟨_, rfl, _, _, rfl, rfl, mulw (by omega) (by omega), _, _, rfl, rfl, _, _, rfl, rfl, qm2, _, _, rfl, rfl, _, rfl, f, _, _, 1, rfl, rfl, hxy, rfl, ?_⟩
    have hf2 : upd H f (.lst ([V.int x, V.int y].set 1 (.int ((y * 69621 % 2147483647 * 48271 + 30103) % 2147483646 + 1)))) f = some (.lst [.int x, .int ((y * 69621 % 2147483647 * 48271 + 30103) % 2147483646 + 1)]) := upd_same
    refine ⟨_, rfl, _, _, rfl, rfl, mulw (by omega) (by omega), _, rfl, _, _, _, _, rfl, rfl, SqL.of hf2, at1, _, _, rfl, rfl, _, _, rfl, rfl, divw (by decide) (by decide), _, rfl, _, _, rfl, rfl, n0, ?_⟩
    exact q _ _ (Int.emod_nonneg _ (by omega)) (Int.emod_lt_of_pos _ n0) ⟨But.refl.put (by simp) _, _, _, upd_same, l1.1, l1.2⟩
def spGNumber : Sp := fun vs H Q _ => ∃ (f : Addr), vs = [.ref f] ∧ Feed H f ∧ ∀ (r : Int) (H' : Hp), 0 ≤ r → r < wide → Go f H H' → Q (.int r) H'
theorem calGNumber (T : Txt K mg) : C8.Cal P w K mg base 2 "_law_number" spGNumber [] := by
  have cGTake := calGTake (P := P) (w := w) (base := base) T
  refine mkCal (k := 1) T.fGNumber scGNumber T.glo__law_number (fun _ _ _ _ _ _ us hl => match us, hl with | [_], _ => rfl) (fun vs H Q E h => ?_) (fun cdv A outer s H vs Q E hr h => ?_)
  · obtain ⟨f, rfl, _⟩ := h
    rfl
  obtain ⟨f, rfl, hf, q⟩ := h
  have hu := hu_of hr
  have hp : (2 : Int) ^ (32 : Int).toNat = 4294967296 := by decide
  have hc : CPow 2 32 := by refine ⟨by decide, by decide, by decide⟩
  refine ⟨_, PSs.nox (pss_cons (ps_set (i := 1) scGNumber.nd rfl (Or.inl rfl) (C8.pe_c cGTake hr (by omega) rfl (pa_cons (pv 0) (pa_cons pe_int pa_nil))))
      (pss_cons (ps_if (pt_cmpR op_lt (pv 1) pe_int (nomark _)) (pss_one (ps_ret (C8.pe_c cGTake hr (by omega) rfl (pa_cons (pv 0) (pa_cons pe_int pa_nil))))) pss_nil)
      (pss_cons (ps_if (pt_cmpR op_eq (pv 1) pe_int (nomark _)) (pss_one (ps_ret (pe_op op_sub (pe_op op_sub (pe_op op_pow pe_int pe_int) pe_int) (C8.pe_c cGTake hr (by omega) rfl (pa_cons (pv 0) (pa_cons pe_int pa_nil)))))) pss_nil)
      (pss_one (ps_ret (C8.pe_c cGTake hr (by omega) rfl (pa_cons (pv 0) (pa_cons (pe_op op_pow pe_int pe_int) pa_nil)))))))), ?_⟩
  refine ⟨_, rfl, f, 4, rfl, hf, by decide, by decide, fun r H1 r0 r1 g1 => ?_⟩
  refine ⟨_, rfl, _, _, rfl, rfl, _, rfl, ite2 (fun d => ?_) (fun d => ?_)⟩
  · exact ⟨_, rfl, f, 6, rfl, g1.2, by decide, by decide, fun z H2 z0 z1 g2 => q z H2 z0 (by show z < 4294967296; omega) (g1.tr g2)⟩
  refine ⟨_, rfl, rfl, _, rfl, ite2 (fun d => ?_) (fun d => ?_)⟩
  · refine ⟨_, _, rfl, rfl, hc, _, _, rfl, rfl, _, rfl, f, 6, rfl, g1.2, by decide, by decide, fun z H2 z0 z1 g2 => ⟨_, _, rfl, rfl, ?_⟩⟩
    rw [hp]
    exact q _ H2 (by omega) (by show _ < (4294967296 : Int); omega) (g1.tr g2)
  · refine ⟨_, rfl, _, _, rfl, rfl, hc, f, _, rfl, g1.2, by rw [hp]; decide, by rw [hp]; decide, fun z H2 z0 z1 g2 => q z H2 z0 (by rw [hp] at z1; exact z1) (g1.tr g2)⟩
end
end Sw
set_option Elab.async false
set_option linter.all false
set_option maxRecDepth 100000
set_option maxHeartbeats 4000000
/-! The law's names. -/
namespace Sw
open PySem PySem.Spec PyProof.Rows L2
def Xs : List Nat := [113, 120, 122, 118, 119]
def outX (c : Nat) : Bool := !Xs.contains c
/-- at most one sign that isn't among these five -/
def Good (w : Str) : Prop := ((TL.tl w).filter outX).length ≤ 1
structure NmOk (ws : List Str) : Prop where
  len : ws.length = 26
  nod : ws.Nodup
  good : ∀ w ∈ ws, Good w
theorem notGood_num : ¬ Good numK := by unfold Good; decide +kernel
theorem qx_tl : TL.tl ("qxzvw" : Str) = Xs := by decide +kernel
theorem abc_tl : TL.tl ("abcdefghijklmnopqrstuvwxyz" : Str) = (List.range 26).map (97 + ·) := by decide +kernel
theorem empty_tl : TL.tl ("" : Str) = [] := by decide +kernel
theorem q_tl : TL.tl ("q" : Str) = [113] := by decide +kernel
theorem joinL_nil : ∀ ls : List (List Nat), TL.joinL [] ls = ls.flatten
  | [] => rfl
  | [p] => by simp [TL.joinL]
  | p :: q :: r => by
    show p ++ ([] ++ TL.joinL [] (q :: r)) = _
    rw [joinL_nil (q :: r)]
    simp
theorem join_tl (ys : List Str) : TL.tl (Txt.join ("" : Str) ys) = (ys.map TL.tl).flatten := by
  rw [TL.join_eq, TL.tl_join, empty_tl, joinL_nil]
def nmF (a b : List Nat) (u : Int) (k : Nat) : List Nat := a ++ [97 + ((u + 5 * (k : Int)) % 26).toNat] ++ b
def nmG (a b : List Nat) (u : Int) (k : Nat) : List Nat := nmF a b u (k - k % 2) ++ (if k % 2 = 1 then [113] else [])
theorem nmF_inj {a b : List Nat} {u : Int} {i j : Nat} (hi : i < 26) (hj : j < 26) (e : nmF a b u i = nmF a b u j) : i = j := by
  unfold nmF at e
  have e1 := List.append_cancel_right e
  have e2 := List.append_cancel_left e1
  injection e2 with e3
  omega
theorem nmG_inj {a b : List Nat} {u : Int} {i j : Nat} (hi : i < 26) (hj : j < 26) (e : nmG a b u i = nmG a b u j) : i = j := by
  unfold nmG at e
  have hl : ∀ k, (nmF a b u k).length = a.length + 1 + b.length := fun k => by simp [nmF]; omega
  have l := congrArg List.length e
  rw [List.length_append, List.length_append, hl, hl] at l
  by_cases h1 : i % 2 = 1 <;> by_cases h2 : j % 2 = 1
  · rw [if_pos h1, if_pos h2] at e
    have := nmF_inj (by omega) (by omega) (List.append_cancel_right e)
    omega
  · rw [if_pos h1, if_neg h2] at l
    simp at l
  · rw [if_neg h1, if_pos h2] at l
    simp at l
  · rw [if_neg h1, if_neg h2] at e
    have := nmF_inj (by omega) (by omega) (List.append_cancel_right e)
    omega
theorem filt_all {a : List Nat} (h : ∀ x ∈ a, x ∈ Xs) : a.filter outX = [] := List.filter_eq_nil_iff.mpr fun x hx => by
  unfold outX
  rw [List.contains_iff_mem.mpr (h x hx)]
  decide
theorem nmF_good {a b : List Nat} (ha : ∀ x ∈ a, x ∈ Xs) (hb : ∀ x ∈ b, x ∈ Xs) (u : Int) (k : Nat) : ((nmF a b u k).filter outX).length ≤ 1 := by
  unfold nmF
  rw [List.filter_append, List.filter_append, filt_all ha, filt_all hb, List.nil_append, List.append_nil]
  exact List.length_filter_le _ [_]
theorem nmG_good {a b : List Nat} (ha : ∀ x ∈ a, x ∈ Xs) (hb : ∀ x ∈ b, x ∈ Xs) (u : Int) (k : Nat) : ((nmG a b u k).filter outX).length ≤ 1 := by
  unfold nmG
  rw [List.filter_append, filt_all (a := if k % 2 = 1 then [113] else []) (fun x hx => by
    by_cases h : k % 2 = 1
    · rw [if_pos h] at hx
      rw [List.mem_singleton.mp hx]
      decide
    · rw [if_neg h] at hx
      cases hx), List.append_nil]
  exact nmF_good ha hb u _
theorem nmOk_of {ws : List Str} {g : Nat → List Nat} (e : ws.map TL.tl = (List.range 26).map g) (inj : ∀ i j, i < 26 → j < 26 → g i = g j → i = j) (good : ∀ k, ((g k).filter outX).length ≤ 1) : NmOk ws := by
  have l : ws.length = 26 := by
    have := congrArg List.length e
    rwa [List.length_map, List.length_map, List.length_range] at this
  have at_ : ∀ i (h : i < ws.length), TL.tl ws[i] = g i := fun i h => by
    have h1 : (ws.map TL.tl)[i]? = ((List.range 26).map g)[i]? := by rw [e]
    rw [List.getElem?_map, List.getElem?_map, List.getElem?_eq_getElem h, List.getElem?_range (by omega)] at h1
    exact Option.some.inj h1
  refine ⟨l, ?_, fun w hw => ?_⟩
  · rw [List.nodup_iff_pairwise_ne, List.pairwise_iff_getElem]
    intro i j hi hj hij z
    have := inj i j (by omega) (by omega) (by rw [← at_ i hi, ← at_ j hj, z])
    omega
  · obtain ⟨i, hi, rfl⟩ := List.mem_iff_getElem.mp hw
    unfold Good
    rw [at_ i hi]
    exact good i
end Sw
set_option Elab.async false
set_option linter.all false
set_option maxRecDepth 100000
set_option maxHeartbeats 4000000
/-! The law's names: the walk. -/
namespace Sw
open PySem PySem.Spec PyProof.Rows L2
theorem atI_of {l : List Nat} {i : Int} (h0 : 0 ≤ i) (h1 : i < (l.length : Int)) : ∃ c, atI l i = some c ∧ l[i.toNat]? = some c := by
  obtain ⟨c, hc⟩ : ∃ c, l[i.toNat]? = some c := ⟨_, List.getElem?_eq_getElem (by omega)⟩
  have e : i = ((i.toNat : Nat) : Int) := by omega
  refine ⟨c, ?_, hc⟩
  rw [e]
  exact atI_nat hc
theorem p5 : (0 : Int) < 5 := by decide
theorem p26 : (0 : Int) < 26 := by decide
theorem p3 : (0 : Int) < 3 := by decide
theorem pz2 : (0 : Int) < 2 := by decide
section
variable {P : Program} {w : World} {K : PySem.W.Frag} {mg : Str → Option Value} {base : Heap}
def spGNames : Sp := fun vs H Q _ => ∃ c : Int, vs = [.int c, .int 26] ∧ ∀ (l : Addr) (ws : List Str) (H' : Hp), H l = none → Same H H' → H' l = some (.lst (ws.map V.str)) → NmOk ws → Q (.ref l) H'
theorem calGNames (T : Txt K mg) : C8.Cal P w K mg base 1 "_law_names" spGNames [] := by
  refine mkCal (k := 0) T.fGNames scGNames T.glo__law_names (fun _ _ _ _ _ _ us hl => match us, hl with | [_, _], _ => rfl) (fun vs H Q E h => ?_) (fun cdv A outer s H vs Q E hr h => ?_)
  · obtain ⟨c, rfl, _⟩ := h
    rfl
  obtain ⟨c, rfl, q⟩ := h
  have hu := hu_of hr
  refine ⟨_, PSs.nox (pss_cons (ps_set (i := 2) scGNames.nd rfl (Or.inr rfl) pe_str)
      (pss_cons (ps_set (i := 3) scGNames.nd rfl (Or.inl rfl) (pe_op op_mod (pv 0) pe_int))
      (pss_cons (ps_set (i := 4) scGNames.nd rfl (Or.inr rfl) (pe_op op_mod (pe_op op_fdivW (pv 0) pe_int) (pe_op op_add (pv 3) pe_int)))
      (pss_cons (ps_set (i := 5) scGNames.nd rfl (Or.inr rfl) (pe_join pe_str (pe_lc (own := [("_law_j", 8)])  rfl scGNames.nd (pi_range1 rfl T.free_range (pa_cons (pv 3) pa_nil)) (blkOk_by (N := nGNames) (sc := defScope sGNames) (by decide +kernel)) (fun _ _ _ _ _ => pg_name (i := 8) scGNames.nd rfl (Or.inl rfl)) (fun _ _ _ _ _ => pts_nil) (fun _ _ _ _ _ => pe_ix ix_str pe_str (pe_op op_mod (pe_op op_add (pe_op op_fdivW (pv 0) pe_int) (pv 8)) pe_int) (fun _ _ => rfl)))))
      (pss_cons (ps_set (i := 6) scGNames.nd rfl (Or.inr rfl) (pe_lc (own := [("_law_k", 7)])  rfl scGNames.nd (pi_range1 rfl T.free_range (pa_cons (pv 1) pa_nil)) (blkOk_by (N := nGNames) (sc := defScope sGNames) (by decide +kernel)) (fun _ _ _ _ _ => pg_name (i := 7) scGNames.nd rfl (Or.inl rfl)) (fun _ _ _ _ _ => pts_nil) (fun _ _ _ _ _ => pe_op op_add_str (pe_op op_add_str (pe_slice sl_str (pv 5) po_none (po_some (pv 4))) (pe_ix ix_str (pv 2) (pe_op op_mod (pe_op op_add (pe_op op_fdivW (pv 0) pe_int) (pe_op op_mulW pe_int (pv 7))) pe_int) (fun _ _ => rfl))) (pe_slice sl_str (pv 5) (po_some (pv 4)) po_none))))
      (pss_cons (ps_if (pt_cmpR op_eq (pe_op op_mod (pe_op op_fdivW (pv 0) pe_int) pe_int) pe_int (nomark _)) (pss_one (ps_ret (pv 6))) pss_nil)
      (pss_one (ps_ret (pe_lc (own := [("_law_k", 7)])  rfl scGNames.nd (pi_range1 rfl T.free_range (pa_cons (pv 1) pa_nil)) (blkOk_by (N := nGNames) (sc := defScope sGNames) (by decide +kernel)) (fun _ _ _ _ _ => pg_name (i := 7) scGNames.nd rfl (Or.inl rfl)) (fun _ _ _ _ _ => pts_nil) (fun _ _ _ _ _ => pe_op op_add_str (pe_ix (ix_listK (K := K) rfl) (pv 6) (pe_op op_sub (pv 7) (pe_op op_mod (pv 7) pe_int)) (fun _ _ => rfl)) (pe_op op_mulS pe_str (pe_op op_mod (pv 7) pe_int)))))))))))), ?_⟩
  have z0 : 0 ≤ c % 5 ∧ c % 5 < 5 := by omega
  generalize hz : c % 5 = z at z0
  have a0 : 0 ≤ c / 5 % (z + 1) ∧ c / 5 % (z + 1) < z + 1 := ⟨Int.emod_nonneg _ (by omega), Int.emod_lt_of_pos _ (by omega)⟩
  refine ⟨_, rfl, _, _, rfl, rfl, p5, ?_⟩
  refine ⟨_, rfl, _, _, rfl, rfl, divw p5 (by decide), _, rfl, _, _, rfl, rfl, _, _, rfl, rfl, (by show (0 : Int) < c % 5 + 1; omega), ?_⟩
  refine ⟨⟨_, rfl⟩, _, rfl, _, rfl, by show -(2 ^ 62) ≤ c % 5; omega, by show c % 5 < 2 ^ 62; omega, fun D nD => ?_⟩
  refine lc_it walk_range (fun i H' => Same H H' ∧ ∃ ys : List Str, H' D = some (.lst (ys.map V.str)) ∧ ys.length = i ∧ ∀ y ∈ ys, (TL.tl y).length = 1 ∧ ∀ x ∈ TL.tl y, x ∈ Xs) ?_ (fun _ _ _ _ => trivial) ?_ ?_
  · exact ⟨same_new nD _, [], upd_same, rfl, fun y hy => absurd hy List.not_mem_nil⟩
  · rintro i y H1 H2 hi ⟨s1, ys, hD, yl, hy⟩ ⟨rfl, rfl⟩
    have hi5 : i < 5 := by
      have : (c % 5).toNat ≤ 5 := by omega
      omega
    have j0 : 0 ≤ (c / 25 + (0 + (i : Int))) % 5 ∧ (c / 25 + (0 + (i : Int))) % 5 < 5 := by omega
    obtain ⟨x, x1, x2⟩ := atI_of (l := TL.tl ("qxzvw" : Str)) j0.1 (by rw [qx_tl]; exact j0.2)
    have xm : x ∈ Xs := by rw [← qx_tl]; exact List.mem_of_getElem? x2
    refine ⟨rfl, lcYes ?_⟩
    refine ⟨_, rfl, _, _, rfl, rfl, divw (by decide) (by decide), _, rfl, _, _, rfl, rfl, _, _, rfl, rfl, p5, _, _, x, rfl, rfl, by decide +kernel, x1, ys.map V.str, hD, small1000 (by rw [List.length_map]; omega), ?_⟩
    refine ⟨same_upd s1 nD _, ys ++ [⟨#[x]⟩], by rw [List.map_append]; exact upd_same, by rw [List.length_append, yl]; rfl, fun y hy' => ?_⟩
    rcases List.mem_append.mp hy' with hy' | hy'
    · exact hy y hy'
    · rw [List.mem_singleton.mp hy']
      exact ⟨rfl, fun z hz => by rw [List.mem_singleton.mp hz]; exact xm⟩
  · rintro H1 ⟨s1, ys, hD, yl, hy⟩
    have fl : ∀ {ys : List Str}, (∀ y ∈ ys, (TL.tl y).length = 1 ∧ ∀ x ∈ TL.tl y, x ∈ Xs) → ((ys.map TL.tl).flatten).length = ys.length ∧ (∀ x ∈ (ys.map TL.tl).flatten, x ∈ Xs) ∧ (ys.map (·.length)).sum = ys.length := fun {ys} => by
      induction ys with
      | nil => intro _; exact ⟨rfl, fun x hx => absurd hx List.not_mem_nil, rfl⟩
      | cons y r ih =>
        intro h
        obtain ⟨e1, e2, e3⟩ := ih fun z hz => h z (List.mem_cons_of_mem _ hz)
        obtain ⟨y1, y2⟩ := h y List.mem_cons_self
        refine ⟨by rw [List.map_cons, List.flatten_cons, List.length_append, e1, y1, List.length_cons]; omega, fun x hx => ?_, by rw [List.map_cons, List.sum_cons, e3, TL.len_tl, y1, List.length_cons]; omega⟩
        rw [List.map_cons, List.flatten_cons] at hx
        rcases List.mem_append.mp hx with hx | hx
        · exact y2 x hx
        · exact e2 x hx
    obtain ⟨f1, f2, f3⟩ := fl hy
    have l5 : ys.length ≤ 5 := by rw [yl]; omega
    refine ⟨_, D, ys, rfl, rfl, .inl (SqL.of hD), by rw [f3, show ("" : Str).length = 0 from rfl]; omega, ?_⟩
    have hcm := join_tl ys
    generalize Txt.join ("" : Str) ys = cm at hcm
    have cml : cm.length = ys.length := by rw [TL.len_tl, hcm, f1]
    have cma : ∀ x ∈ TL.tl cm, x ∈ Xs := by rw [hcm]; exact f2
    have lA : ∀ lo hi, (cutS cm lo hi).length ≤ 5 := fun lo hi => Nat.le_trans (cutS_length cm lo hi) (by omega)
    have mA : ∀ lo hi, ∀ x ∈ TL.tl (cutS cm lo hi), x ∈ Xs := fun lo hi x hx => by
      have : TL.tl (cutS cm lo hi) = (cm.cps.toList.drop (HT.sIx cm.length 0 lo)).take (HT.sIx cm.length cm.length hi - HT.sIx cm.length 0 lo) := List.toList_toArray
      rw [this] at hx
      exact cma x (List.mem_of_mem_drop (List.mem_of_mem_take hx))
    have sl : ∀ {n : Nat}, n ≤ 30 → n ≤ sizeLine := fun {n} h => Nat.le_of_lt (small1000 (by omega))
    -- the names
    refine ⟨_, rfl, 26, rfl, by decide, by decide, fun D2 nD2 => ?_⟩
    have fD2 : H D2 = none := by
      cases e : H D2 with
      | none => rfl
      | some o => rw [s1 _ _ e] at nD2; cases nD2
    refine lc_it walk_range (fun i H' => Same H H' ∧ ∃ ys : List Str, H' D2 = some (.lst (ys.map V.str)) ∧ ys.map TL.tl = (List.range i).map (nmF (TL.tl (cutS cm none (some (c / 5 % (c % 5 + 1))))) (TL.tl (cutS cm (some (c / 5 % (c % 5 + 1))) none)) (c / 125)) ∧ ∀ y ∈ ys, y.length ≤ 20) ?_ (fun _ _ _ _ => trivial) ?_ ?_
    · exact ⟨Same.tr s1 (same_new nD2 _), [], upd_same, rfl, fun y hy => absurd hy List.not_mem_nil⟩
    · rintro i y H2 H3 hi ⟨s2, ws, hD2, ew, lw⟩ ⟨rfl, rfl⟩
      have hi26 : i < 26 := hi
      have j0 : 0 ≤ (c / 125 + 5 * (0 + (i : Int))) % 26 ∧ (c / 125 + 5 * (0 + (i : Int))) % 26 < 26 := by omega
      obtain ⟨x, x1, x2⟩ := atI_of (l := TL.tl ("abcdefghijklmnopqrstuvwxyz" : Str)) j0.1 (by rw [abc_tl, List.length_map, List.length_range]; exact j0.2)
      have xe : x = 97 + ((c / 125 + 5 * (i : Int)) % 26).toNat := by
        rw [abc_tl, List.getElem?_map, List.getElem?_range (by omega)] at x2
        rw [Int.zero_add] at x2
        exact (Option.some.inj x2).symm
      have lw2 : ws.length = i := by
        have := congrArg List.length ew
        rwa [List.length_map, List.length_map, List.length_range] at this
      have l1 : (cutS cm none (some (c / 5 % (c % 5 + 1))) ++ (⟨#[x]⟩ : Str)).length ≤ 6 := by
        rw [TL.len_tl, TL.tl_append, List.length_append, ← TL.len_tl]
        exact Nat.add_le_add (lA _ _) (Nat.le_refl 1)
      have l2 := lA (some (c / 5 % (c % 5 + 1))) none
      have l3 := lA none (some (c / 5 % (c % 5 + 1)))
      refine ⟨rfl, lcYes ?_⟩
      have cl : cm.length ≤ 5 := by omega
      refine ⟨_, rfl, _, rfl, _, rfl, cm, rfl, sl (by omega), _, rfl, _, rfl, _, _, rfl, rfl, divw (by decide) (by decide), _, rfl, _, _, rfl, rfl, mulw (by decide) (by omega), _, _, rfl, rfl, _, _, rfl, rfl, p26, _, _, x, rfl, rfl, by decide +kernel, x1, _, _, rfl, rfl, sl (Nat.le_trans (Nat.add_le_add l3 (Nat.le_refl 1)) (by decide)),
        _, rfl, _, rfl, _, rfl, cm, rfl, sl (by omega), _, _, rfl, rfl, sl (Nat.le_trans (Nat.add_le_add l1 l2) (by decide)), ws.map V.str, hD2, small1000 (by rw [List.length_map]; omega), ?_⟩
      refine ⟨same_upd s2 fD2 _, ws ++ [cutS cm none (some (c / 5 % (c % 5 + 1))) ++ (⟨#[x]⟩ : Str) ++ cutS cm (some (c / 5 % (c % 5 + 1))) none], by rw [List.map_append]; exact upd_same, ?_, fun y hy => ?_⟩
      · rw [List.map_append, ew, List.range_succ, List.map_append]
        congr 1
        rw [List.map_singleton, List.map_singleton, TL.tl_append, TL.tl_append]
        unfold nmF
        rw [← xe]
      · rcases List.mem_append.mp hy with hy | hy
        · exact lw y hy
        · rw [List.mem_singleton.mp hy, TL.len_tl, TL.tl_append, List.length_append, ← TL.len_tl, ← TL.len_tl]
          omega
    · rintro H2 ⟨s2, ws, hD2, ew, lw⟩
      have ew' : ws.map TL.tl = (List.range 26).map (nmF (TL.tl (cutS cm none (some (c / 5 % (c % 5 + 1))))) (TL.tl (cutS cm (some (c / 5 % (c % 5 + 1))) none)) (c / 125)) := ew
      have ok1 := nmOk_of ew' (fun i j hi hj e => nmF_inj hi hj e) (fun k => nmF_good (mA _ _) (mA _ _) _ k)
      refine ⟨_, rfl, _, _, rfl, rfl, divw (by decide) (by decide), _, _, rfl, rfl, p3, rfl, _, rfl, ite2 (fun d => ?_) (fun d => ?_)⟩
      · exact ⟨_, rfl, q D2 ws H2 fD2 s2 hD2 ok1⟩
      have at2' : ∀ i (h : i < 26), ∃ y, ws[i]? = some y ∧ TL.tl y = nmF (TL.tl (cutS cm none (some (c / 5 % (c % 5 + 1))))) (TL.tl (cutS cm (some (c / 5 % (c % 5 + 1))) none)) (c / 125) i := fun i h => by
        have hl := ok1.len
        have h1 : (ws.map TL.tl)[i]? = ((List.range 26).map (nmF (TL.tl (cutS cm none (some (c / 5 % (c % 5 + 1))))) (TL.tl (cutS cm (some (c / 5 % (c % 5 + 1))) none)) (c / 125)))[i]? := by rw [ew']
        rw [List.getElem?_map, List.getElem?_map, List.getElem?_eq_getElem (by omega), List.getElem?_range (by omega)] at h1
        exact ⟨_, List.getElem?_eq_getElem (by omega), Option.some.inj h1⟩
      refine ⟨_, rfl, 26, rfl, by decide, by decide, fun D3 nD3 => ?_⟩
      refine lc_it walk_range (fun i H' => Same H2 H' ∧ ∃ ys : List Str, H' D3 = some (.lst (ys.map V.str)) ∧ ys.map TL.tl = (List.range i).map (nmG (TL.tl (cutS cm none (some (c / 5 % (c % 5 + 1))))) (TL.tl (cutS cm (some (c / 5 % (c % 5 + 1))) none)) (c / 125))) ?_ (fun _ _ _ _ => trivial) ?_ ?_
      · exact ⟨same_new nD3 _, [], upd_same, rfl⟩
      · rintro i y H3 H4 hi ⟨s3, us, hD3, eu⟩ ⟨rfl, rfl⟩
        have hi26 : i < 26 := hi
        obtain ⟨y, hy, ey⟩ := at2' (i - i % 2) (by omega)
        have lu : us.length = i := by
          have := congrArg List.length eu
          rwa [List.length_map, List.length_map, List.length_range] at this
        have ly := lw y (List.mem_of_getElem? hy)
        have ie : ((0 : Int) + (i : Int)) - (0 + (i : Int)) % 2 = ((i - i % 2 : Nat) : Int) := by omega
        have me : ((0 : Int) + (i : Int)) % 2 = ((i % 2 : Nat) : Int) := by omega
        have ql : ("q" : Str).length ≤ 1 := by decide +kernel
        have el : Str.empty.length ≤ 1 := by decide +kernel
        refine ⟨rfl, lcYes ?_⟩
        have fin : ∀ t : Str, t.length ≤ 1 → TL.tl t = (if i % 2 = 1 then [113] else []) → ∃ acc, H4 D3 = some (.lst acc) ∧ acc.length < sizeLine ∧ (Same H2 (upd H4 D3 (.lst (acc ++ [V.str (y ++ t)]))) ∧ ∃ ys : List Str, upd H4 D3 (.lst (acc ++ [V.str (y ++ t)])) D3 = some (.lst (ys.map V.str)) ∧ ys.map TL.tl = (List.range (i + 1)).map (nmG (TL.tl (cutS cm none (some (c / 5 % (c % 5 + 1))))) (TL.tl (cutS cm (some (c / 5 % (c % 5 + 1))) none)) (c / 125))) := fun t ht et => by
          refine ⟨us.map V.str, hD3, small1000 (by rw [List.length_map]; omega), same_upd s3 nD3 _, us ++ [y ++ t], by rw [List.map_append]; exact upd_same, ?_⟩
          rw [List.map_append, eu, List.range_succ, List.map_append]
          congr 1
          rw [List.map_singleton, List.map_singleton, TL.tl_append, ey, et]
          rfl
        refine ⟨_, rfl, _, rfl, _, rfl, _, _, rfl, rfl, pz2, _, _, rfl, rfl, D2, _, _, .str y, rfl, rfl, SqL.of (s3 _ _ hD2), ?_, _, rfl, _, _, rfl, rfl, pz2, _, _, rfl, rfl, ?_⟩
        · rw [ie]
          exact atI_nat (by rw [List.getElem?_map, hy]; rfl)
        · by_cases p : i % 2 = 1
          · exact .inr ⟨by rw [me, p]; rfl, _, _, rfl, rfl, sl (Nat.le_trans (Nat.add_le_add ly ql) (by decide)), fin _ (by decide +kernel) (by rw [if_pos p]; exact q_tl)⟩
          · exact .inl ⟨by rw [me, show i % 2 = 0 by omega]; rfl, _, _, rfl, rfl, sl (Nat.le_trans (Nat.add_le_add ly el) (by decide)), fin _ (by decide +kernel) (by rw [if_neg p]; rfl)⟩
      · rintro H3 ⟨s3, us, hD3, eu⟩
        have fD3 : H D3 = none := by
          cases e : H D3 with
          | none => rfl
          | some o => rw [s2 _ _ e] at nD3; cases nD3
        exact q D3 us H3 fD3 (Same.tr s2 s3) hD3 (nmOk_of eu (fun i j hi hj e => nmG_inj hi hj e) (fun k => nmG_good (mA _ _) (mA _ _) _ k))
end
end Sw
set_option Elab.async false
set_option linter.all false
set_option maxRecDepth 100000
set_option maxHeartbeats 4000000
/-! The law's sort_of, size, small. -/
namespace Sw
open PySem PySem.Spec PyProof.Rows L2
/-- kinds in a list or a tuple -/
def KsE (H : Hp) (v : V) (ks : List KR) : Prop := ∃ a vs, v = .ref a ∧ (H a = some (.lst vs) ∨ H a = some (.tup vs)) ∧ Ims H vs (ks.map KR.d)
theorem KsE.same {H H' : Hp} {v : V} {ks : List KR} (h : KsE H v ks) (s : Same H H') : KsE H' v ks := by
  obtain ⟨a, vs, e, h1, h2⟩ := h
  exact ⟨a, vs, e, h1.elim (fun h => .inl (s _ _ h)) (fun h => .inr (s _ _ h)), h2.mono (ts_same s)⟩
theorem KsAt.e {H : Hp} {v : V} {ks : List KR} (h : KsAt H v ks) : KsE H v ks := by
  obtain ⟨a, xs, e, h1, h2⟩ := Im.tupE (show Im H v (.tuple (ks.map KR.d)) from h)
  exact ⟨a, xs, e, .inr h1, h2⟩
def sOfK (ks : List KR) (k : Str) : Str := match row ks k with | some r => sortS r.alt | none => numK
def pOfK (ks : List KR) (k : Str) : List (Str × Str) := match row ks k with | some r => r.ps | none => []
def smA (ks : List KR) : Nat → Str → Nat
  | 0, _ => 1
  | n + 1, k => if sOfK ks k = "alt" then 1 + smA ks n ((pOfK ks k).head?.map (·.2) |>.getD numK) else 1 + ((pOfK ks k).map fun p => smA ks n p.2).sum
theorem row_num {ks : List KR} (ok : KOk ks) : row ks numK = none := by
  cases e : row ks numK with
  | none => rfl
  | some r => exact absurd rfl (ok.row_ne e)
theorem kn_parts {ks : List KR} (ok : KOk ks) {n : Nat} {k : Str} (h : Kn ks n k) : ∀ p ∈ pOfK ks k, ∃ m, n = m + 1 ∧ Kn ks m p.2 := fun p hp => by
  unfold pOfK at hp
  cases e : row ks k with
  | none => rw [e] at hp; cases hp
  | some r =>
    rw [e] at hp
    have ne := ok.row_ne e
    cases n with
    | zero => exact absurd (KOk.none0 h) ne
    | succ m =>
      obtain ⟨r', e', hr⟩ := ok.step h ne
      rw [e] at e'
      cases e'
      exact ⟨m, rfl, hr p hp⟩
theorem alt_ne {ks : List KR} (ok : KOk ks) {k : Str} (h : sOfK ks k = "alt") : ∃ r p l, row ks k = some r ∧ r.alt = true ∧ pOfK ks k = p :: l := by
  unfold sOfK at h
  unfold pOfK
  cases e : row ks k with
  | none => rw [e] at h; exact absurd h (by decide +kernel)
  | some r =>
    rw [e] at h
    have ha : r.alt = true := by
      cases c : r.alt with
      | true => rfl
      | false =>
        have h' : sortS r.alt = "alt" := h
        rw [c] at h'
        exact absurd h' (by decide +kernel)
    have hp := ok.alt r (row_mem e).1 ha
    cases c : r.ps with
    | nil => exact absurd c hp
    | cons p l => exact ⟨r, p, l, rfl, ha, c⟩
theorem smA_eq {ks : List KR} (ok : KOk ks) : ∀ {m : Nat} {k : Str}, Kn ks m k → ∀ {a b : Nat}, m < a → m < b → smA ks a k = smA ks b k := by
  intro m
  induction m with
  | zero =>
    intro k h a b ha hb
    obtain ⟨a, rfl⟩ : ∃ j, a = j + 1 := ⟨a - 1, by omega⟩
    obtain ⟨b, rfl⟩ : ∃ j, b = j + 1 := ⟨b - 1, by omega⟩
    have e : pOfK ks k = [] := by
      cases c : pOfK ks k with
      | nil => rfl
      | cons p l =>
        obtain ⟨m, hm, _⟩ := kn_parts ok h p (by rw [c]; exact List.mem_cons_self)
        omega
    unfold smA
    by_cases c : sOfK ks k = "alt"
    · obtain ⟨r, p, l, _, _, e2⟩ := alt_ne ok c
      rw [e] at e2
      cases e2
    · rw [if_neg c, if_neg c, e]
      rfl
  | succ m ih =>
    intro k h a b ha hb
    obtain ⟨a, rfl⟩ : ∃ j, a = j + 1 := ⟨a - 1, by omega⟩
    obtain ⟨b, rfl⟩ : ∃ j, b = j + 1 := ⟨b - 1, by omega⟩
    have pk : ∀ p ∈ pOfK ks k, Kn ks m p.2 := fun p hp => by
      obtain ⟨m', e, h'⟩ := kn_parts ok h p hp
      obtain rfl : m = m' := by omega
      exact h'
    unfold smA
    by_cases c : sOfK ks k = "alt"
    · obtain ⟨r, p, l, _, _, e2⟩ := alt_ne ok c
      rw [if_pos c, if_pos c, e2]
      show 1 + smA ks a p.2 = 1 + smA ks b p.2
      rw [ih (pk p (by rw [e2]; exact List.mem_cons_self)) (by omega : m < a) (by omega : m < b)]
    · rw [if_neg c, if_neg c, List.map_congr_left fun p hp => ih (pk p hp) (by omega : m < a) (by omega : m < b)]
def smK (ks : List KR) (k : Str) : Nat := smA ks 5 k
section
variable {P : Program} {w : World} {K : PySem.W.Frag} {mg : Str → Option Value} {base : Heap}
def spGSortOf : Sp := fun vs H Q _ => ∃ (v : V) (k : Str) (ks : List KR), vs = [v, .str k] ∧ KsE H v ks ∧ ∀ (t b : Addr) (xs : List V) (H' : Hp), Same H H' → H' t = some (.tup [.str (sOfK ks k), .ref b]) → H' b = some (.tup xs) → Ims H' xs ((pOfK ks k).map partD) → Q (.ref t) H'
theorem calGSortOf (T : Txt K mg) : C8.Cal P w K mg base 1 "_law_sort_of" spGSortOf [] := by
  refine mkCal (k := 0) T.fGSortOf scGSortOf T.glo__law_sort_of (fun _ _ _ _ _ _ us hl => match us, hl with | [_, _], _ => rfl) (fun vs H Q E h => ?_) (fun cdv A outer s H vs Q E hr h => ?_)
  · obtain ⟨v, k, ks, rfl, _⟩ := h
    rfl
  obtain ⟨v, k, ks, rfl, ⟨a, vs, rfl, hv, ims⟩, q⟩ := h
  have hu := hu_of hr
  refine ⟨_, PSs.nox (pss_cons (ps_for PassesOwn.never rfl (pi_either (pv 0)) (pg_tupK (K := K) (n := 3) rfl rfl (pgs_cons (pg_name (i := 2) scGSortOf.nd rfl (Or.inl rfl)) (pgs_cons (pg_name (i := 3) scGSortOf.nd rfl (Or.inl rfl)) (pgs_cons (pg_name (i := 4) scGSortOf.nd rfl (Or.inl rfl)) pgs_nil))))
        (pss_one (ps_if (pt_cmpR op_eq (pv 2) (pv 1) (nomark _)) (pss_one (ps_ret (pe_tup (pa_cons (pv 3) (pa_cons (pv 4) pa_nil))))) pss_nil)))
      (pss_one (ps_ret (pe_tup (pa_cons pe_str (pa_cons (pe_tup pa_nil) pa_nil)))))), ?_⟩
  rcases hv with hv | hv
  · refine Or.inl ⟨_, rfl, a, rfl, ⟨_, SqL.of hv⟩, for_it (walk_list (K := K) (a := a) (xs := vs)) (fun i σ H' => H' = H ∧ (∃ c1 c2 c3, σ = [some (.ref a), some (.str k), c1, c2, c3]) ∧ ∀ j r, j < i → ks[j]? = some r → r.nm ≠ k) ⟨rfl, ⟨_, _, _, rfl⟩, fun j r hj => absurd hj (Nat.not_lt_zero j)⟩ (fun i σ H' _ hP => by rw [hP.1]; exact SqL.of hv) ?_ ?_⟩
    · rintro i x σ H1 H2 hi ⟨rfl, ⟨c1, c2, c3, rfl⟩, hno⟩ ⟨rfl, hx⟩
      obtain ⟨d, hd, id⟩ := ims.of hx
      rw [List.getElem?_map] at hd
      obtain ⟨r, hr, rfl⟩ := Option.map_eq_some_iff.mp hd
      obtain ⟨t, v1, v2, v3, rfl, ht, i1, i2, i3⟩ := id.t3
      cases i1.strE
      cases i2.strE
      obtain ⟨b, xs, rfl, hb, ixs⟩ := i3.tupE
      refine ⟨_, _, rfl, SqT.of ht, rfl, _, _, rfl, _, _, rfl, _, _, rfl, rfl, ?_⟩
      refine ⟨_, rfl, _, rfl, rfl, _, rfl, ite2 (fun c => ?_) (fun c => ?_)⟩
      · have ek : r.nm = k := V.str.inj (of_decide_eq_true c)
        have hrow : row ks k = some r := by
          unfold row
          rw [List.find?_eq_some_iff_getElem]
          obtain ⟨hl, e⟩ := List.getElem?_eq_some_iff.mp hr
          exact ⟨decide_eq_true ek, i, hl, e, fun j hj => by
            have := hno j ks[j] hj (List.getElem?_eq_getElem (by omega))
            simpa using this⟩
        refine ⟨_, rfl, _, rfl, sz, fun t2 nt2 => ?_⟩
        have s2 : Same H2 (upd H2 t2 (.tup [.str (sortS r.alt), .ref b])) := same_new nt2 _
        refine q t2 b xs _ s2 ?_ (s2 _ _ hb) ?_
        · unfold sOfK
          rw [hrow]
          exact upd_same
        · unfold pOfK
          rw [hrow]
          exact ixs.mono (ts_same s2)
      · exact ⟨rfl, ⟨_, _, _, rfl⟩, fun j r' hj hr' => by
          by_cases z : j = i
          · subst z
            rw [hr] at hr'
            cases hr'
            exact fun z => c (decide_eq_true (by rw [z]))
          · exact hno j r' (by omega) hr'⟩
    · rintro σ H1 ⟨rfl, ⟨c1, c2, c3, rfl⟩, hno⟩
      have hrow : row ks k = none := by
        unfold row
        rw [List.find?_eq_none]
        intro r hr
        obtain ⟨j, hj, ej⟩ := List.mem_iff_getElem.mp hr
        have := ims.length
        rw [List.length_map] at this
        have := hno j r (by omega) (by rw [List.getElem?_eq_getElem hj, ej])
        simpa using this
      refine ⟨sz, fun b nb => ⟨sz, fun t nt => ?_⟩⟩
      have s1 : Same H1 (upd H1 b (.tup [])) := same_new nb _
      have s2 : Same (upd H1 b (.tup [])) (upd (upd H1 b (.tup [])) t (.tup [.str numK, .ref b])) := same_new nt _
      refine q t b [] _ (Same.tr s1 s2) ?_ (s2 _ _ upd_same) ?_
      · unfold sOfK
        rw [hrow]
        exact upd_same
      · unfold pOfK
        rw [hrow]
        exact .nil
  · refine Or.inr ⟨_, rfl, a, rfl, ⟨_, SqT.of hv⟩, for_it (walk_tup (K := K) (a := a) (xs := vs)) (fun i σ H' => H' = H ∧ (∃ c1 c2 c3, σ = [some (.ref a), some (.str k), c1, c2, c3]) ∧ ∀ j r, j < i → ks[j]? = some r → r.nm ≠ k) ⟨rfl, ⟨_, _, _, rfl⟩, fun j r hj => absurd hj (Nat.not_lt_zero j)⟩ (fun i σ H' _ hP => by rw [hP.1]; exact SqT.of hv) ?_ ?_⟩
    · rintro i x σ H1 H2 hi ⟨rfl, ⟨c1, c2, c3, rfl⟩, hno⟩ ⟨rfl, hx⟩
      obtain ⟨d, hd, id⟩ := ims.of hx
      rw [List.getElem?_map] at hd
      obtain ⟨r, hr, rfl⟩ := Option.map_eq_some_iff.mp hd
      obtain ⟨t, v1, v2, v3, rfl, ht, i1, i2, i3⟩ := id.t3
      cases i1.strE
      cases i2.strE
      obtain ⟨b, xs, rfl, hb, ixs⟩ := i3.tupE
      refine ⟨_, _, rfl, SqT.of ht, rfl, _, _, rfl, _, _, rfl, _, _, rfl, rfl, ?_⟩
      refine ⟨_, rfl, _, rfl, rfl, _, rfl, ite2 (fun c => ?_) (fun c => ?_)⟩
      · have ek : r.nm = k := V.str.inj (of_decide_eq_true c)
        have hrow : row ks k = some r := by
          unfold row
          rw [List.find?_eq_some_iff_getElem]
          obtain ⟨hl, e⟩ := List.getElem?_eq_some_iff.mp hr
          exact ⟨decide_eq_true ek, i, hl, e, fun j hj => by
            have := hno j ks[j] hj (List.getElem?_eq_getElem (by omega))
            simpa using this⟩
        refine ⟨_, rfl, _, rfl, sz, fun t2 nt2 => ?_⟩
        have s2 : Same H2 (upd H2 t2 (.tup [.str (sortS r.alt), .ref b])) := same_new nt2 _
        refine q t2 b xs _ s2 ?_ (s2 _ _ hb) ?_
        · unfold sOfK
          rw [hrow]
          exact upd_same
        · unfold pOfK
          rw [hrow]
          exact ixs.mono (ts_same s2)
      · exact ⟨rfl, ⟨_, _, _, rfl⟩, fun j r' hj hr' => by
          by_cases z : j = i
          · subst z
            rw [hr] at hr'
            cases hr'
            exact fun z => c (decide_eq_true (by rw [z]))
          · exact hno j r' (by omega) hr'⟩
    · rintro σ H1 ⟨rfl, ⟨c1, c2, c3, rfl⟩, hno⟩
      have hrow : row ks k = none := by
        unfold row
        rw [List.find?_eq_none]
        intro r hr
        obtain ⟨j, hj, ej⟩ := List.mem_iff_getElem.mp hr
        have := ims.length
        rw [List.length_map] at this
        have := hno j r (by omega) (by rw [List.getElem?_eq_getElem hj, ej])
        simpa using this
      refine ⟨sz, fun b nb => ⟨sz, fun t nt => ?_⟩⟩
      have s1 : Same H1 (upd H1 b (.tup [])) := same_new nb _
      have s2 : Same (upd H1 b (.tup [])) (upd (upd H1 b (.tup [])) t (.tup [.str numK, .ref b])) := same_new nt _
      refine q t b [] _ (Same.tr s1 s2) ?_ (s2 _ _ upd_same) ?_
      · unfold sOfK
        rw [hrow]
        exact upd_same
      · unfold pOfK
        rw [hrow]
        exact .nil
end
end Sw
set_option Elab.async false
set_option linter.all false
set_option maxRecDepth 100000
set_option maxHeartbeats 4000000
/-! The law's small, size. -/
namespace Sw
open PySem PySem.Spec PyProof.Rows L2
section
variable {P : Program} {w : World} {K : PySem.W.Frag} {mg : Str → Option Value} {base : Heap}
def spGSmall (n : Nat) : Sp := fun vs H Q _ => ∃ (v : V) (k : Str) (ks : List KR) (m : Nat), vs = [v, .str k] ∧ n = m + 1 ∧ KsE H v ks ∧ KOk ks ∧ Kn ks m k ∧ ∀ H', Same H H' → Q (.int ((smA ks (m + 1) k : Nat) : Int)) H'
theorem pOfK_ok {ks : List KR} (ok : KOk ks) (k : Str) : ((pOfK ks k).map (·.1)).Nodup ∧ (pOfK ks k).length ≤ 4 := by
  unfold pOfK
  cases e : row ks k with
  | none => exact ⟨List.nodup_nil, by decide⟩
  | some r => exact ok.pn r (row_mem e).1
theorem sumNat (l : List Nat) : (l.map fun n => ((n : Nat) : Int)).sum = ((l.sum : Nat) : Int) := by
  induction l with
  | nil => rfl
  | cons a r ih => rw [List.map_cons, List.sum_cons, List.sum_cons, ih]; omega
theorem calGSmall (T : Txt K mg) : ∀ n, C8.Cal P w K mg base (n + 1) "_law_small" (spGSmall n) []
  | 0 => by
    obtain ⟨f, fd, ps, ds, F, h2⟩ := (calF (P := P) (w := w) (base := base) T.fGSmall T.glo__law_small (fun _ _ _ _ _ _ us hl => match us, hl with | [_, _], _ => rfl) (ps := pGSmall)).ex
    exact ⟨f, fd, ps, ds, (F.imp (sp' := spGSmall 0) (fun vs H Q E h => by obtain ⟨_, _, _, m, _, h0, _⟩ := h; omega)).mono (by omega), h2⟩
  | n + 1 => by
    have cGSmall := calGSmall T n
    have cGSortOf := calGSortOf (P := P) (w := w) (base := base) T
    refine mkCal (k := n + 1) T.fGSmall scGSmall T.glo__law_small (fun _ _ _ _ _ _ us hl => match us, hl with | [_, _], _ => rfl) (fun vs H Q E h => ?_) (fun cdv A outer s H vs Q E hr h => ?_)
    · obtain ⟨v, k, ks, m, rfl, _⟩ := h
      rfl
    obtain ⟨v, k, ks, m, rfl, hm, hk, ok, kn, q⟩ := h
    have hu := hu_of hr
    obtain rfl : m = n := by omega
    refine ⟨_, PSs.nox (pss_cons (ps_asg (C8.pe_c cGSortOf hr (by omega) rfl (pa_cons (pv 0) (pa_cons (pv 1) pa_nil))) (pg_tupK (K := K) (n := 2) rfl rfl (pgs_cons (pg_name (i := 2) scGSmall.nd rfl (Or.inl rfl)) (pgs_cons (pg_name (i := 3) scGSmall.nd rfl (Or.inl rfl)) pgs_nil))))
      (pss_cons (ps_if (pt_cmpR op_eq (pv 2) pe_str (nomark _)) (pss_one (ps_ret (pe_op op_add pe_int (C8.pe_c cGSmall hr (by omega) rfl (pa_cons (pv 0) (pa_cons (pe_ix (ix_tupK (K := K) rfl) (pe_ix (ix_tupK (K := K) rfl) (pv 3) pe_int (fun _ _ => rfl)) pe_int (fun _ _ => rfl)) pa_nil)))))) pss_nil)
      (pss_one (ps_ret (pe_op op_add pe_int (pe_callB (cr_sum rfl) (by rfl) T.free_sum (by decide +kernel) (pa_cons (pe_lc (own := [("_law_name", 4), ("_law_part", 5)])  rfl scGSmall.nd (pi_tup (pv 3)) (blkOk_by (N := nGSmall) (sc := defScope sGSmall) (by decide +kernel)) (fun _ _ _ _ _ => pg_tupK (K := K) (n := 2) rfl rfl (pgs_cons (pg_name (i := 4) scGSmall.nd rfl (Or.inl rfl)) (pgs_cons (pg_name (i := 5) scGSmall.nd rfl (Or.inl rfl)) pgs_nil))) (fun _ _ _ _ _ => pts_nil) (fun _ _ _ _ _ => C8.pe_c cGSmall hr (by omega) rfl (pa_cons (pv 0) (pa_cons (pv 5) pa_nil)))) pa_nil))))))), ?_⟩
    refine ⟨_, rfl, _, rfl, v, k, ks, rfl, hk, fun t b xs H1 s1 ht hb ixs => ?_⟩
    refine ⟨_, _, rfl, SqT.of ht, rfl, _, _, rfl, _, _, rfl, rfl, ?_⟩
    refine ⟨_, rfl, rfl, _, rfl, ite2 (fun c => ?_) (fun c => ?_)⟩
    · have ea : sOfK ks k = "alt" := V.str.inj (of_decide_eq_true c)
      obtain ⟨r, p, l, hrow, ha, ep⟩ := alt_ne ok ea
      rw [ep] at ixs
      obtain ⟨v1, us, rfl, i1, _⟩ := ixs.tail
      obtain ⟨c1, w1, w2, rfl, hc1, j1, j2⟩ := i1.t2
      cases j2.strE
      obtain ⟨m', e, h'⟩ := kn_parts ok kn p (by rw [ep]; exact List.mem_cons_self)
      subst e
      refine ⟨_, rfl, _, rfl, _, _, _, _, rfl, rfl, SqT.of hb, at0, _, _, _, _, rfl, rfl, SqT.of hc1, at1, v, p.2, ks, m', rfl, rfl, hk.same s1, ok, h', fun H2 s2 => ⟨_, _, rfl, rfl, ?_⟩⟩
      have := q H2 (Same.tr s1 s2)
      have e2 : smA ks (m' + 1 + 1) k = 1 + smA ks (m' + 1) p.2 := by
        conv => lhs; unfold smA
        rw [if_pos ea, ep]
        rfl
      rw [e2] at this
      exact this
    · have na : sOfK ks k ≠ "alt" := fun z => c (decide_eq_true (by rw [z]))
      refine ⟨_, rfl, b, rfl, ⟨_, SqT.of hb⟩, fun D nD => ?_⟩
      refine lc_it (walk_tup (K := K) (a := b) (xs := xs)) (fun i H' => Same H1 H' ∧ H' D = some (.lst ((((pOfK ks k).take i).map fun p => ((smA ks m p.2 : Nat) : Int)).map V.int))) ⟨same_new nD _, upd_same⟩ (fun i H' _ hP => SqT.of (hP.1 _ _ hb)) ?_ ?_
      · rintro i y H2 H3 hi ⟨s2, hD⟩ ⟨rfl, hy⟩
        obtain ⟨d, hd, id⟩ := ixs.of hy
        rw [List.getElem?_map] at hd
        obtain ⟨p, hp, rfl⟩ := Option.map_eq_some_iff.mp hd
        obtain ⟨e, w1, w2, rfl, he, j1, j2⟩ := (id.mono (ts_same s2)).t2
        cases j1.strE
        cases j2.strE
        obtain ⟨m', e, h'⟩ := kn_parts ok kn p (List.mem_of_getElem? hp)
        subst e
        refine ⟨_, _, rfl, SqT.of he, rfl, _, _, rfl, _, _, rfl, rfl, rfl, lcYes ?_⟩
        refine ⟨_, rfl, _, rfl, v, p.2, ks, m', rfl, rfl, hk.same (Same.tr s1 s2), ok, h', fun H4 s4 => ⟨_, s4 _ _ hD, ?_, same_upd (Same.tr s2 s4) nD _, ?_⟩⟩
        · exact small1000 (by have := (pOfK_ok ok k).2; rw [List.length_map, List.length_map, List.length_take]; omega)
        · rw [List.take_succ, hp, List.map_append, List.map_append]
          exact upd_same
      · rintro H2 ⟨s2, hD⟩
        have xl := ixs.length
        rw [List.length_map] at xl
        rw [List.take_of_length_le (by omega)] at hD
        refine ⟨D, _, rfl, SqL.of hD, _, _, rfl, rfl, ?_⟩
        have := q H2 (Same.tr s1 s2)
        have e2 : smA ks (m + 1) k = 1 + ((pOfK ks k).map fun p => smA ks m p.2).sum := by
          conv => lhs; unfold smA
          rw [if_neg na]
        rw [e2] at this
        have e3 : ((pOfK ks k).map fun p => ((smA ks m p.2 : Nat) : Int)).sum = (((pOfK ks k).map fun p => smA ks m p.2).sum : Nat) := by rw [← sumNat, List.map_map]; rfl
        rw [e3]
        exact this
def spGSize (n : Nat) : Sp := fun vs H Q _ => ∃ (v : V) (k : Str) (ks : List KR) (m : Nat), vs = [v, .str k] ∧ n = m + 1 ∧ KsE H v ks ∧ KOk ks ∧ Kn ks m k ∧ ∀ (z : Int) (H' : Hp), Same H H' → Q (.int z) H'
theorem calGSize (T : Txt K mg) : ∀ n, C8.Cal P w K mg base (n + 1) "_law_size" (spGSize n) []
  | 0 => by
    obtain ⟨f, fd, ps, ds, F, h2⟩ := (calF (P := P) (w := w) (base := base) T.fGSize T.glo__law_size (fun _ _ _ _ _ _ us hl => match us, hl with | [_, _], _ => rfl) (ps := pGSize)).ex
    exact ⟨f, fd, ps, ds, (F.imp (sp' := spGSize 0) (fun vs H Q E h => by obtain ⟨_, _, _, m, _, h0, _⟩ := h; omega)).mono (by omega), h2⟩
  | n + 1 => by
    have cGSize := calGSize T n
    have cGSortOf := calGSortOf (P := P) (w := w) (base := base) T
    refine mkCal (k := n + 1) T.fGSize scGSize T.glo__law_size (fun _ _ _ _ _ _ us hl => match us, hl with | [_, _], _ => rfl) (fun vs H Q E h => ?_) (fun cdv A outer s H vs Q E hr h => ?_)
    · obtain ⟨v, k, ks, m, rfl, _⟩ := h
      rfl
    obtain ⟨v, k, ks, m, rfl, hm, hk, ok, kn, q⟩ := h
    have hu := hu_of hr
    obtain rfl : m = n := by omega
    refine ⟨_, PSs.nox (pss_cons (ps_asg (C8.pe_c cGSortOf hr (by omega) rfl (pa_cons (pv 0) (pa_cons (pv 1) pa_nil))) (pg_tupK (K := K) (n := 2) rfl rfl (pgs_cons (pg_name (i := 2) scGSize.nd rfl (Or.inl rfl)) (pgs_cons (pg_name (i := 3) scGSize.nd rfl (Or.inl rfl)) pgs_nil))))
      (pss_cons (ps_setLc (own := [("_law_name", 5), ("_law_part", 6)]) (i := 4) rfl scGSize.nd rfl rfl (sw_true rfl rfl rfl (by decide +kernel)) (pi_tup (pv 3)) (blkOk_by (N := nGSize) (sc := defScope sGSize) (by decide +kernel)) (fun _ _ _ _ _ => pg_tupK (K := K) (n := 2) rfl rfl (pgs_cons (pg_name (i := 5) scGSize.nd rfl (Or.inl rfl)) (pgs_cons (pg_name (i := 6) scGSize.nd rfl (Or.inl rfl)) pgs_nil))) (fun _ _ _ _ _ => pts_nil) (fun _ _ _ _ _ => C8.pe_c cGSize hr (by omega) rfl (pa_cons (pv 0) (pa_cons (pv 6) pa_nil))))
      (pss_cons (ps_if (pt_cmpR op_eq (pv 2) pe_str (nomark _)) (pss_one (ps_ret (pe_op op_add pe_int (pe_callB (cr_max rfl) (by rfl) T.free_max (by decide +kernel) (pa_cons (pv 4) pa_nil))))) pss_nil)
      (pss_one (ps_ret (pe_op op_add pe_int (pe_callB (cr_sum rfl) (by rfl) T.free_sum (by decide +kernel) (pa_cons (pv 4) pa_nil)))))))), ?_⟩
    refine ⟨_, rfl, _, rfl, v, k, ks, rfl, hk, fun t b xs H1 s1 ht hb ixs => ?_⟩
    refine ⟨_, _, rfl, SqT.of ht, rfl, _, _, rfl, _, _, rfl, rfl, ?_⟩
    refine ⟨_, rfl, b, rfl, ⟨_, SqT.of hb⟩, fun D nD => ?_⟩
    refine lc_it (walk_tup (K := K) (a := b) (xs := xs)) (fun i H' => Same H1 H' ∧ ∃ zs : List Int, H' D = some (.lst (zs.map V.int)) ∧ zs.length = i) ⟨same_new nD _, [], upd_same, rfl⟩ (fun i H' _ hP => SqT.of (hP.1 _ _ hb)) ?_ ?_
    · rintro i y H2 H3 hi ⟨s2, zs, hD, zl⟩ ⟨rfl, hy⟩
      obtain ⟨d, hd, id⟩ := ixs.of hy
      rw [List.getElem?_map] at hd
      obtain ⟨p, hp, rfl⟩ := Option.map_eq_some_iff.mp hd
      obtain ⟨e, w1, w2, rfl, he, j1, j2⟩ := (id.mono (ts_same s2)).t2
      cases j1.strE
      cases j2.strE
      obtain ⟨m', e, h'⟩ := kn_parts ok kn p (List.mem_of_getElem? hp)
      subst e
      have xl := ixs.length
      rw [List.length_map] at xl
      have pl := (pOfK_ok ok k).2
      refine ⟨_, _, rfl, SqT.of he, rfl, _, _, rfl, _, _, rfl, rfl, rfl, lcYes ?_⟩
      refine ⟨_, rfl, _, rfl, v, p.2, ks, m', rfl, rfl, hk.same (Same.tr s1 s2), ok, h', fun z H4 s4 => ⟨_, s4 _ _ hD, small1000 (by rw [List.length_map]; omega), same_upd (Same.tr s2 s4) nD _, zs ++ [z], by rw [List.map_append]; exact upd_same, by rw [List.length_append, zl]; rfl⟩⟩
    · rintro H2 ⟨s2, zs, hD, zl⟩
      refine ⟨_, rfl, rfl, _, rfl, ite2 (fun c => ?_) (fun c => ?_)⟩
      · have ea : sOfK ks k = "alt" := V.str.inj (of_decide_eq_true c)
        obtain ⟨r, p, l, hrow, ha, ep⟩ := alt_ne ok ea
        have xl := ixs.length
        rw [List.length_map, ep, List.length_cons] at xl
        exact ⟨_, rfl, D, zs, rfl, SqL.of hD, by omega, fun z _ _ => ⟨_, _, rfl, rfl, q _ H2 (Same.tr s1 s2)⟩⟩
      · exact ⟨_, rfl, D, zs, rfl, SqL.of hD, _, _, rfl, rfl, q _ H2 (Same.tr s1 s2)⟩
end
end Sw
set_option Elab.async false
set_option linter.all false
set_option maxRecDepth 100000
set_option maxHeartbeats 4000000
/-! The law's kinds: parts, kinds, any_kind. -/
namespace Sw
open PySem PySem.Spec PyProof.Rows L2
theorem sort_alt (b : Bool) : decide (V.str (sortS b) = V.str "alt") = b := by cases b <;> decide +kernel
theorem sort_rec (b : Bool) : decide (V.str (sortS b) = V.str "rec") = !b := by cases b <;> decide +kernel
theorem kd_at {ks : List KR} {i : Nat} {k : Str} (h : (numK :: ks.map (·.nm))[i]? = some k) : Kd ks k := by
  cases i with
  | zero => exact .inl (Option.some.inj h).symm
  | succ i =>
    rw [List.getElem?_cons_succ, List.getElem?_map] at h
    obtain ⟨r, hr, rfl⟩ := Option.map_eq_some_iff.mp h
    exact .inr ⟨i, r, (List.getElem?_eq_some_iff.mp hr).1, hr, rfl⟩
section
variable {P : Program} {w : World} {K : PySem.W.Frag} {mg : Str → Option Value} {base : Heap}
def spGParts (n : Nat) : Sp := fun vs H Q _ => ∃ (f kl nl : Addr) (b : Bool) (ks : List KR) (kvs : List V) (nms : List Str), vs = [.ref f, .ref kl, .str (sortS b), .ref nl] ∧ Feed H f ∧ H kl = some (.lst kvs) ∧ kl ≠ f ∧ Ims H kvs (ks.map KR.d) ∧ KOk ks ∧ H nl = some (.lst (nms.map V.str)) ∧ nl ≠ f ∧ nms.length = 4 ∧ nms.Nodup ∧
  ∀ (v : V) (ps : List (Str × Str)) (H' : Hp), Go f H H' → Im H' v (.tuple (ps.map partD)) → (∀ p ∈ ps, Kd ks p.2) → (ps.map (·.1)).Nodup → ps.length ≤ 4 → (b = true → ps ≠ []) → Q v H'
theorem calGParts (T : Txt K mg) : C8.Cal P w K mg base 8 "_law_parts" (spGParts 0) [] := by
  have cGTake := calGTake (P := P) (w := w) (base := base) T
  have cGSize := calGSize (P := P) (w := w) (base := base) T 5
  refine mkCal (k := 7) T.fGParts scGParts T.glo__law_parts (fun _ _ _ _ _ _ us hl => match us, hl with | [_, _, _, _], _ => rfl) (fun vs H Q E h => ?_) (fun cdv A outer s H vs Q E hr h => ?_)
  · obtain ⟨f, kl, nl, b, ks, kvs, nms, rfl, _⟩ := h
    rfl
  obtain ⟨f, kl, nl, b, ks, kvs, nms, rfl, hf, hkl, klf, iks, ok, hnl, nlf, n4, nnd, q⟩ := h
  have hu := hu_of hr
  have hk4 := ok.len
  have kvl := iks.length
  rw [List.length_map] at kvl
  refine ⟨_, PSs.nox (pss_cons (ps_set (i := 4) scGParts.nd rfl (Or.inl rfl) (pe_lst pa_nil))
      (pss_cons (ps_set (i := 5) scGParts.nd rfl (Or.inl rfl) pe_int)
      (pss_cons (ps_for PassesOwn.never rfl (pi_range1 rfl T.free_range (pa_cons (pe_op op_add (pe_op op_add (C8.pe_c cGTake hr (by omega) rfl (pa_cons (pv 0) (pa_cons pe_int pa_nil))) (pe_callTy call_int1 (by rfl) T.free_int (by decide +kernel) (pa_cons (pe_cmpR op_eq (pv 2) pe_str (nomark _)) pa_nil))) (pe_callTy call_int1 (by rfl) T.free_int (by decide +kernel) (pa_cons (pe_and (pe_cmpR op_eq (C8.pe_c cGTake hr (by omega) rfl (pa_cons (pv 0) (pa_cons pe_int pa_nil))) pe_int (nomark _)) (pe_one (pe_cmpR op_eq (pv 2) pe_str (nomark _)))) pa_nil))) pa_nil)) (pg_name (i := 6) scGParts.nd rfl (Or.inl rfl))
        (pss_cons (ps_set (i := 7) scGParts.nd rfl (Or.inl rfl) (pe_ix (ix_listK (K := K) rfl) (pe_op op_cat (pe_lst (pa_cons pe_str pa_nil)) (pe_lc (own := [("_law_row", 8)])  rfl scGParts.nd (pi_list (pv 1)) (blkOk_by (N := nGParts) (sc := defScope sGParts) (by decide +kernel)) (fun _ _ _ _ _ => pg_name (i := 8) scGParts.nd rfl (Or.inl rfl)) (fun _ _ _ _ _ => pts_nil) (fun _ _ _ _ _ => pe_ix (ix_tupK (K := K) rfl) (pv 8) pe_int (fun _ _ => rfl)))) (C8.pe_c cGTake hr (by omega) rfl (pa_cons (pv 0) (pa_cons (pe_op op_add pe_int (pe_callB (call_len_seqK (K := K) rfl) (by rfl) T.free_len PySem.boot_len (pa_cons (pv 1) pa_nil))) pa_nil))) (fun _ _ => rfl)))
          (C8.pss_cut (ps_if (pt_cmpR op_gt (C8.pe_c cGSize hr (by omega) rfl (pa_cons (pv 1) (pa_cons (pv 7) pa_nil))) (pv 5) (nomark _)) (pss_one (ps_set (i := 7) scGParts.nd rfl (Or.inl rfl) pe_str)) pss_nil)
          (pss_cons (ps_set (i := 5) scGParts.nd rfl (Or.inl rfl) (pe_op op_sub (pv 5) (C8.pe_c cGSize hr (by omega) rfl (pa_cons (pv 1) (pa_cons (pv 7) pa_nil)))))
          (pss_one (ps_expr (pe_bm PySem.F.plainAttrs_list PySem.F.slot_list_append PySem.F.type_list_append mt_append (pv 4) (pa_cons (pe_tup (pa_cons (pe_ix (ix_listK (K := K) rfl) (pv 3) (pv 6) (fun _ _ => rfl)) (pa_cons (pv 7) pa_nil))) pa_nil))))))))
      (pss_one (ps_ret (pe_callTy call_tuple_of (by rfl) T.free_tuple (by decide +kernel) (pa_cons (pe_slice sl_list (pv 4) po_none (po_some pe_int)) pa_nil))))))), ?_⟩
  refine ⟨sz, fun pl npl => ?_⟩
  have plf := hf.ne npl
  have s0 : Same H (upd H pl (.lst [])) := same_new npl _
  have hf0 := hf.same s0
  have pl0 : upd H pl (.lst []) pl = some (.lst []) := upd_same
  generalize upd H pl (.lst []) = H0 at s0 hf0 pl0
  refine ⟨_, rfl, f, 4, rfl, hf0, by decide, by decide, fun r H1 r0 r1 g1 => ?_⟩
  refine ⟨_, rfl, rfl, .inr ⟨_, rfl, _, _, rfl, rfl, _, rfl, f, 9, rfl, g1.2, by decide, by decide, fun r2 H2 r20 r21 g2 => ?_⟩⟩
  have g02 := g1.tr g2
  have G2 : Go f H H2 := (Go.of hf s0).tr g02
  have pl2 : H2 pl = some (.lst []) := g02.at pl0 plf
  refine ⟨rfl, _, rfl, ite2 (fun c => ?_) (fun c => ?_)⟩
  · refine ⟨_, rfl, rfl, .inr ⟨_, rfl, _, _, rfl, rfl, ?_⟩⟩
    have J1 : 0 ≤ (r + (if decide (V.str (sortS b) = V.str "alt") = true then 1 else 0) + (if decide (V.str (sortS b) = V.str "rec") = true then 1 else 0) : Int) ∧ (r + (if decide (V.str (sortS b) = V.str "alt") = true then 1 else 0) + (if decide (V.str (sortS b) = V.str "rec") = true then 1 else 0) : Int) ≤ 4 ∧ (b = true → 1 ≤ (r + (if decide (V.str (sortS b) = V.str "alt") = true then 1 else 0) + (if decide (V.str (sortS b) = V.str "rec") = true then 1 else 0) : Int)) := by
      rw [sort_alt, sort_rec]
      cases b <;> simp <;> omega
    have hn : (r + (if decide (V.str (sortS b) = V.str "alt") = true then 1 else 0) + (if decide (V.str (sortS b) = V.str "rec") = true then 1 else 0)).toNat ≤ 4 := Int.toNat_le.mpr J1.2.1
    refine ⟨_, rfl, Int.le_trans (by decide) J1.1, Int.lt_of_le_of_lt J1.2.1 (by decide), for_it walk_range (fun i σ H' => (∃ (left : Int) (c6 c7 : Option V), σ = [some (.ref f), some (.ref kl), some (.str (sortS b)), some (.ref nl), some (.ref pl), some (.int left), c6, c7, none]) ∧
      Go f H H' ∧ ∃ (xs : List V) (ps : List (Str × Str)), H' pl = some (.lst xs) ∧ Ims H' xs (ps.map partD) ∧ ps.map (·.1) = nms.take i ∧ ps.length = i ∧ ∀ p ∈ ps, Kd ks p.2)
      ⟨⟨25, none, none, rfl⟩, G2, [], [], pl2, .nil, rfl, rfl, fun p hp => absurd hp List.not_mem_nil⟩ (fun _ _ _ _ _ => trivial) ?_ ?_⟩
    · rintro i y σ H3 H3' hi ⟨⟨left, c6, c7, rfl⟩, G3, xs, ps, hpl, ixs, nps, lps, kps⟩ ⟨rfl, rfl⟩
      have hi4 : i < 4 := Nat.lt_of_lt_of_le hi hn
      have T3 := hf.ts G3
      have kl3 := G3.at hkl klf
      have iks3 := iks.mono T3
      -- a kind
      refine ⟨sz, fun a1 na1 => ?_⟩
      have s4 : Same H3' (upd H3' a1 (.lst [.str numK])) := same_new na1 _
      have ha1 : upd H3' a1 (.lst [.str numK]) a1 = some (.lst [.str numK]) := upd_same
      refine ⟨_, rfl, kl, rfl, ⟨_, SqL.of (s4 _ _ kl3)⟩, fun D nD => ?_⟩
      have nD' : upd H3' a1 (.lst [.str numK]) D = none := nD
      have nD3 : H3' D = none := by
        cases e : H3' D with
        | none => rfl
        | some o => rw [s4 _ _ e] at nD'; cases nD'
      have a1D : a1 ≠ D := fun z => by rw [← z, ha1] at nD'; cases nD'
      refine lc_it (walk_list (K := K) (a := kl) (xs := kvs)) (fun j H' => Same H3' H' ∧ H' a1 = some (.lst [.str numK]) ∧ H' D = some (.lst (((ks.map (·.nm)).take j).map V.str))) ⟨Same.tr s4 (same_new nD _), same_new nD _ _ _ ha1, upd_same⟩ (fun j H' _ hP => SqL.of (hP.1 _ _ kl3)) ?_ ?_
      · rintro j y H4 H5 hj ⟨s5, a5, hD⟩ ⟨rfl, hy⟩
        obtain ⟨d, hd, id⟩ := iks3.of hy
        rw [List.getElem?_map] at hd
        obtain ⟨r3, hr3, rfl⟩ := Option.map_eq_some_iff.mp hd
        obtain ⟨t, w1, w2, w3, rfl, ht, i1, _⟩ := (id.mono (ts_same s5)).t3
        cases i1.strE
        refine ⟨rfl, lcYes ?_⟩
        refine ⟨_, rfl, _, _, _, _, rfl, rfl, SqT.of ht, at0, _, hD, small1000 (by rw [List.length_map, List.length_take, List.length_map]; omega), same_upd s5 nD3 _, ?_, ?_⟩
        · rw [upd_ne a1D]
          exact a5
        · rw [List.take_succ, List.getElem?_map, hr3, List.map_append]
          exact upd_same
      · rintro H4 ⟨s5, a5, hD⟩
        rw [List.take_of_length_le (by rw [List.length_map]; omega)] at hD
        refine ⟨a1, D, _, _, rfl, rfl, a5, hD, Nat.le_of_lt (small1000 (by rw [List.length_map, List.length_map, List.length_singleton]; omega)), fun p np => ?_⟩
        have s6 : Same H4 (upd H4 p (.lst ([.str numK] ++ (ks.map (·.nm)).map V.str))) := same_new np _
        have hp6 : upd H4 p (.lst ([.str numK] ++ (ks.map (·.nm)).map V.str)) p = some (.lst ((numK :: ks.map (·.nm)).map V.str)) := upd_same
        have s36 := Same.tr s5 s6
        generalize upd H4 p (.lst ([.str numK] ++ (ks.map (·.nm)).map V.str)) = H6 at s6 hp6 s36
        have F6 := G3.2.same s36
        have pf : p ≠ f := (G3.2.same s5).ne np
        refine ⟨_, rfl, _, rfl, kl, _, rfl, .inl (SqL.of (s36 _ _ kl3)), _, _, rfl, rfl, f, _, rfl, F6, by omega, by omega, fun r4 H7 r40 r41 g7 => ?_⟩
        have rl : r4.toNat < (numK :: ks.map (·.nm)).length := by rw [List.length_cons, List.length_map]; omega
        obtain ⟨k, hk⟩ : ∃ k, (numK :: ks.map (·.nm))[r4.toNat]? = some k := ⟨_, List.getElem?_eq_getElem rl⟩
        have kk := kd_at hk
        have ra : atI ((numK :: ks.map (·.nm)).map V.str) r4 = some (.str k) := by
          have e : r4 = ((r4.toNat : Nat) : Int) := by omega
          rw [e]
          exact atI_nat (by rw [List.getElem?_map, hk]; rfl)
        refine ⟨p, _, _, _, rfl, rfl, SqL.of (g7.at hp6 pf), ra, ?_⟩
        have G7 : Go f H H7 := (G3.sm s36).tr g7
        have T7 := hf.ts G7
        have pl7 : H7 pl = some (.lst xs) := g7.at (s36 _ _ hpl) plf
        have ixs7 : Ims H7 xs (ps.map partD) := (ixs.mono (ts_same s36)).mono (F6.ts g7)
        have ke7 : KsE H7 (.ref kl) ks := ⟨kl, kvs, rfl, .inl (G7.at hkl klf), iks.mono T7⟩
        have k5 : ∀ {k : Str}, Kd ks k → Kn ks 4 k := fun h => h.mono hk4
        refine ⟨fun σ' H' => ∃ k' : Str, σ' = [some (.ref f), some (.ref kl), some (.str (sortS b)), some (.ref nl), some (.ref pl), some (.int left), some (.int (0 + (i : Int))), some (.str k'), none] ∧ Kd ks k' ∧ Same H7 H', ?_, ?_⟩
        · refine ⟨_, rfl, _, rfl, .ref kl, k, ks, 4, rfl, rfl, ke7, ok, k5 kk, fun z H8 s8 => ⟨_, rfl, _, _, rfl, rfl, _, rfl, ite2 (fun _ => ?_) (fun _ => ?_)⟩⟩
          · exact ⟨numK, rfl, .inl rfl, s8⟩
          · exact ⟨k, rfl, kk, s8⟩
        rintro σ8 H8 ⟨k', rfl, kk', s8⟩
        refine ⟨_, rfl, _, rfl, _, rfl, .ref kl, k', ks, 4, rfl, rfl, ke7.same s8, ok, k5 kk', fun z H9 s9 => ⟨_, _, rfl, rfl, ?_⟩⟩
        have s79 := Same.tr s8 s9
        obtain ⟨nm, hnm⟩ : ∃ nm, nms[i]? = some nm := ⟨_, List.getElem?_eq_getElem (by omega)⟩
        have zi : (0 : Int) + (i : Int) = ((i : Nat) : Int) := Int.zero_add _
        have nl9 := s79 _ _ (G7.at hnl nlf)
        have pl9 := s79 _ _ pl7
        have ai : atI (nms.map V.str) (0 + (i : Int)) = some (.str nm) := by rw [zi]; exact atI_nat (by rw [List.getElem?_map, hnm]; rfl)
        refine ⟨_, rfl, .inl ⟨rfl, _, SqL.of pl9⟩, _, rfl, _, rfl, _, _, _, _, rfl, rfl, SqL.of nl9, ai, _, rfl, sz, fun t nt => ?_⟩
        have s10 : Same H9 (upd H9 t (.tup [.str nm, .str k'])) := same_new nt _
        have xl := ixs.length
        rw [List.length_map] at xl
        refine ⟨pl, _, _, rfl, rfl, s10 _ _ pl9, small1000 (by omega), ?_⟩
        have G10 : Go f H (upd H9 t (.tup [.str nm, .str k'])) := G7.sm (Same.tr s79 s10)
        have ht10 : upd H9 t (.tup [.str nm, .str k']) t = some (.tup [.str nm, .str k']) := upd_same
        have pl10 := s10 _ _ pl9
        have ixs10 := ixs7.mono (ts_same (Same.tr s79 s10))
        generalize upd H9 t (.tup [.str nm, .str k']) = H10 at s10 G10 ht10 pl10 ixs10
        have tsp : TS H10 (upd H10 pl (.lst (xs ++ [.ref t]))) := ts_lst pl10
        refine ⟨⟨_, _, _, rfl⟩, ⟨fun b' o e n => ?_, G10.2.put plf⟩, xs ++ [.ref t], ps ++ [(nm, k')], upd_same, ?_, ?_, by rw [List.length_append, lps]; rfl, fun p' hp' => ?_⟩
        · rw [upd_ne (fun z => by rw [z, npl] at e; cases e)]
          exact G10.1 b' o e n
        · rw [List.map_append]
          exact (ixs10.mono tsp).snoc (.tup (tsp _ _ ht10) (.cons (.str _) (.cons (.str _) .nil)))
        · rw [List.map_append, nps, List.take_succ, hnm]
          rfl
        · rcases List.mem_append.mp hp' with h | h
          · exact kps p' h
          · rw [List.mem_singleton.mp h]
            exact kk'
    · rintro σ H3 ⟨⟨left, c6, c7, rfl⟩, G3, xs, ps, hpl, ixs, nps, lps, kps⟩
      have xl := ixs.length
      rw [List.length_map] at xl
      have xl4 : xs.length ≤ 4 := by omega
      have ce : cutV xs none (some 4) = xs := by
        unfold cutV
        rw [HT.sIx_none, show (some 4 : Option Int) = some ((4 : Nat) : Int) from rfl, HT.sIx_nat, List.drop_zero, List.take_of_length_le (by omega)]
      refine ⟨_, rfl, _, rfl, pl, xs, rfl, SqL.of hpl, fun p2 np2 => ?_⟩
      rw [ce]
      have s4 : Same H3 (upd H3 p2 (.lst xs)) := same_new np2 _
      refine ⟨p2, xs, rfl, .inl ⟨SqL.of upd_same, fun t nt => ?_⟩⟩
      have s5 : Same (upd H3 p2 (.lst xs)) (upd (upd H3 p2 (.lst xs)) t (.tup xs)) := same_new nt _
      have s35 := Same.tr s4 s5
      refine q _ ps _ (G3.sm s35) (.tup upd_same (ixs.mono (ts_same s35))) kps ?_ (by omega) (fun hb => ?_)
      · rw [nps]
        exact (List.take_sublist _ _).nodup nnd
      · have h1 : 1 ≤ (r + (if decide (V.str (sortS b) = V.str "alt") = true then 1 else 0) + (if decide (V.str (sortS b) = V.str "rec") = true then 1 else 0)).toNat := by
          have := J1.2.2 hb
          omega
        intro e
        rw [e] at lps
        rw [← lps] at h1
        exact absurd h1 (by decide)
  · refine .inr ⟨_, rfl, _, _, rfl, rfl, ?_⟩
    have J1 : 0 ≤ (r + (if decide (V.str (sortS b) = V.str "alt") = true then 1 else 0) + (if false = true then 1 else 0) : Int) ∧ (r + (if decide (V.str (sortS b) = V.str "alt") = true then 1 else 0) + (if false = true then 1 else 0) : Int) ≤ 4 ∧ (b = true → 1 ≤ (r + (if decide (V.str (sortS b) = V.str "alt") = true then 1 else 0) + (if false = true then 1 else 0) : Int)) := by
      rw [sort_alt]
      cases b <;> simp <;> omega
    have hn : (r + (if decide (V.str (sortS b) = V.str "alt") = true then 1 else 0) + (if false = true then 1 else 0)).toNat ≤ 4 := Int.toNat_le.mpr J1.2.1
    refine ⟨_, rfl, Int.le_trans (by decide) J1.1, Int.lt_of_le_of_lt J1.2.1 (by decide), for_it walk_range (fun i σ H' => (∃ (left : Int) (c6 c7 : Option V), σ = [some (.ref f), some (.ref kl), some (.str (sortS b)), some (.ref nl), some (.ref pl), some (.int left), c6, c7, none]) ∧
      Go f H H' ∧ ∃ (xs : List V) (ps : List (Str × Str)), H' pl = some (.lst xs) ∧ Ims H' xs (ps.map partD) ∧ ps.map (·.1) = nms.take i ∧ ps.length = i ∧ ∀ p ∈ ps, Kd ks p.2)
      ⟨⟨25, none, none, rfl⟩, G2, [], [], pl2, .nil, rfl, rfl, fun p hp => absurd hp List.not_mem_nil⟩ (fun _ _ _ _ _ => trivial) ?_ ?_⟩
    · rintro i y σ H3 H3' hi ⟨⟨left, c6, c7, rfl⟩, G3, xs, ps, hpl, ixs, nps, lps, kps⟩ ⟨rfl, rfl⟩
      have hi4 : i < 4 := Nat.lt_of_lt_of_le hi hn
      have T3 := hf.ts G3
      have kl3 := G3.at hkl klf
      have iks3 := iks.mono T3
      -- a kind
      refine ⟨sz, fun a1 na1 => ?_⟩
      have s4 : Same H3' (upd H3' a1 (.lst [.str numK])) := same_new na1 _
      have ha1 : upd H3' a1 (.lst [.str numK]) a1 = some (.lst [.str numK]) := upd_same
      refine ⟨_, rfl, kl, rfl, ⟨_, SqL.of (s4 _ _ kl3)⟩, fun D nD => ?_⟩
      have nD' : upd H3' a1 (.lst [.str numK]) D = none := nD
      have nD3 : H3' D = none := by
        cases e : H3' D with
        | none => rfl
        | some o => rw [s4 _ _ e] at nD'; cases nD'
      have a1D : a1 ≠ D := fun z => by rw [← z, ha1] at nD'; cases nD'
      refine lc_it (walk_list (K := K) (a := kl) (xs := kvs)) (fun j H' => Same H3' H' ∧ H' a1 = some (.lst [.str numK]) ∧ H' D = some (.lst (((ks.map (·.nm)).take j).map V.str))) ⟨Same.tr s4 (same_new nD _), same_new nD _ _ _ ha1, upd_same⟩ (fun j H' _ hP => SqL.of (hP.1 _ _ kl3)) ?_ ?_
      · rintro j y H4 H5 hj ⟨s5, a5, hD⟩ ⟨rfl, hy⟩
        obtain ⟨d, hd, id⟩ := iks3.of hy
        rw [List.getElem?_map] at hd
        obtain ⟨r3, hr3, rfl⟩ := Option.map_eq_some_iff.mp hd
        obtain ⟨t, w1, w2, w3, rfl, ht, i1, _⟩ := (id.mono (ts_same s5)).t3
        cases i1.strE
        refine ⟨rfl, lcYes ?_⟩
        refine ⟨_, rfl, _, _, _, _, rfl, rfl, SqT.of ht, at0, _, hD, small1000 (by rw [List.length_map, List.length_take, List.length_map]; omega), same_upd s5 nD3 _, ?_, ?_⟩
        · rw [upd_ne a1D]
          exact a5
        · rw [List.take_succ, List.getElem?_map, hr3, List.map_append]
          exact upd_same
      · rintro H4 ⟨s5, a5, hD⟩
        rw [List.take_of_length_le (by rw [List.length_map]; omega)] at hD
        refine ⟨a1, D, _, _, rfl, rfl, a5, hD, Nat.le_of_lt (small1000 (by rw [List.length_map, List.length_map, List.length_singleton]; omega)), fun p np => ?_⟩
        have s6 : Same H4 (upd H4 p (.lst ([.str numK] ++ (ks.map (·.nm)).map V.str))) := same_new np _
        have hp6 : upd H4 p (.lst ([.str numK] ++ (ks.map (·.nm)).map V.str)) p = some (.lst ((numK :: ks.map (·.nm)).map V.str)) := upd_same
        have s36 := Same.tr s5 s6
        generalize upd H4 p (.lst ([.str numK] ++ (ks.map (·.nm)).map V.str)) = H6 at s6 hp6 s36
        have F6 := G3.2.same s36
        have pf : p ≠ f := (G3.2.same s5).ne np
        refine ⟨_, rfl, _, rfl, kl, _, rfl, .inl (SqL.of (s36 _ _ kl3)), _, _, rfl, rfl, f, _, rfl, F6, by omega, by omega, fun r4 H7 r40 r41 g7 => ?_⟩
        have rl : r4.toNat < (numK :: ks.map (·.nm)).length := by rw [List.length_cons, List.length_map]; omega
        obtain ⟨k, hk⟩ : ∃ k, (numK :: ks.map (·.nm))[r4.toNat]? = some k := ⟨_, List.getElem?_eq_getElem rl⟩
        have kk := kd_at hk
        have ra : atI ((numK :: ks.map (·.nm)).map V.str) r4 = some (.str k) := by
          have e : r4 = ((r4.toNat : Nat) : Int) := by omega
          rw [e]
          exact atI_nat (by rw [List.getElem?_map, hk]; rfl)
        refine ⟨p, _, _, _, rfl, rfl, SqL.of (g7.at hp6 pf), ra, ?_⟩
        have G7 : Go f H H7 := (G3.sm s36).tr g7
        have T7 := hf.ts G7
        have pl7 : H7 pl = some (.lst xs) := g7.at (s36 _ _ hpl) plf
        have ixs7 : Ims H7 xs (ps.map partD) := (ixs.mono (ts_same s36)).mono (F6.ts g7)
        have ke7 : KsE H7 (.ref kl) ks := ⟨kl, kvs, rfl, .inl (G7.at hkl klf), iks.mono T7⟩
        have k5 : ∀ {k : Str}, Kd ks k → Kn ks 4 k := fun h => h.mono hk4
        refine ⟨fun σ' H' => ∃ k' : Str, σ' = [some (.ref f), some (.ref kl), some (.str (sortS b)), some (.ref nl), some (.ref pl), some (.int left), some (.int (0 + (i : Int))), some (.str k'), none] ∧ Kd ks k' ∧ Same H7 H', ?_, ?_⟩
        · refine ⟨_, rfl, _, rfl, .ref kl, k, ks, 4, rfl, rfl, ke7, ok, k5 kk, fun z H8 s8 => ⟨_, rfl, _, _, rfl, rfl, _, rfl, ite2 (fun _ => ?_) (fun _ => ?_)⟩⟩
          · exact ⟨numK, rfl, .inl rfl, s8⟩
          · exact ⟨k, rfl, kk, s8⟩
        rintro σ8 H8 ⟨k', rfl, kk', s8⟩
        refine ⟨_, rfl, _, rfl, _, rfl, .ref kl, k', ks, 4, rfl, rfl, ke7.same s8, ok, k5 kk', fun z H9 s9 => ⟨_, _, rfl, rfl, ?_⟩⟩
        have s79 := Same.tr s8 s9
        obtain ⟨nm, hnm⟩ : ∃ nm, nms[i]? = some nm := ⟨_, List.getElem?_eq_getElem (by omega)⟩
        have zi : (0 : Int) + (i : Int) = ((i : Nat) : Int) := Int.zero_add _
        have nl9 := s79 _ _ (G7.at hnl nlf)
        have pl9 := s79 _ _ pl7
        have ai : atI (nms.map V.str) (0 + (i : Int)) = some (.str nm) := by rw [zi]; exact atI_nat (by rw [List.getElem?_map, hnm]; rfl)
        refine ⟨_, rfl, .inl ⟨rfl, _, SqL.of pl9⟩, _, rfl, _, rfl, _, _, _, _, rfl, rfl, SqL.of nl9, ai, _, rfl, sz, fun t nt => ?_⟩
        have s10 : Same H9 (upd H9 t (.tup [.str nm, .str k'])) := same_new nt _
        have xl := ixs.length
        rw [List.length_map] at xl
        refine ⟨pl, _, _, rfl, rfl, s10 _ _ pl9, small1000 (by omega), ?_⟩
        have G10 : Go f H (upd H9 t (.tup [.str nm, .str k'])) := G7.sm (Same.tr s79 s10)
        have ht10 : upd H9 t (.tup [.str nm, .str k']) t = some (.tup [.str nm, .str k']) := upd_same
        have pl10 := s10 _ _ pl9
        have ixs10 := ixs7.mono (ts_same (Same.tr s79 s10))
        generalize upd H9 t (.tup [.str nm, .str k']) = H10 at s10 G10 ht10 pl10 ixs10
        have tsp : TS H10 (upd H10 pl (.lst (xs ++ [.ref t]))) := ts_lst pl10
        refine ⟨⟨_, _, _, rfl⟩, ⟨fun b' o e n => ?_, G10.2.put plf⟩, xs ++ [.ref t], ps ++ [(nm, k')], upd_same, ?_, ?_, by rw [List.length_append, lps]; rfl, fun p' hp' => ?_⟩
        · rw [upd_ne (fun z => by rw [z, npl] at e; cases e)]
          exact G10.1 b' o e n
        · rw [List.map_append]
          exact (ixs10.mono tsp).snoc (.tup (tsp _ _ ht10) (.cons (.str _) (.cons (.str _) .nil)))
        · rw [List.map_append, nps, List.take_succ, hnm]
          rfl
        · rcases List.mem_append.mp hp' with h | h
          · exact kps p' h
          · rw [List.mem_singleton.mp h]
            exact kk'
    · rintro σ H3 ⟨⟨left, c6, c7, rfl⟩, G3, xs, ps, hpl, ixs, nps, lps, kps⟩
      have xl := ixs.length
      rw [List.length_map] at xl
      have xl4 : xs.length ≤ 4 := by omega
      have ce : cutV xs none (some 4) = xs := by
        unfold cutV
        rw [HT.sIx_none, show (some 4 : Option Int) = some ((4 : Nat) : Int) from rfl, HT.sIx_nat, List.drop_zero, List.take_of_length_le (by omega)]
      refine ⟨_, rfl, _, rfl, pl, xs, rfl, SqL.of hpl, fun p2 np2 => ?_⟩
      rw [ce]
      have s4 : Same H3 (upd H3 p2 (.lst xs)) := same_new np2 _
      refine ⟨p2, xs, rfl, .inl ⟨SqL.of upd_same, fun t nt => ?_⟩⟩
      have s5 : Same (upd H3 p2 (.lst xs)) (upd (upd H3 p2 (.lst xs)) t (.tup xs)) := same_new nt _
      have s35 := Same.tr s4 s5
      refine q _ ps _ (G3.sm s35) (.tup upd_same (ixs.mono (ts_same s35))) kps ?_ (by omega) (fun hb => ?_)
      · rw [nps]
        exact (List.take_sublist _ _).nodup nnd
      · have h1 : 1 ≤ (r + (if decide (V.str (sortS b) = V.str "alt") = true then 1 else 0) + (if false = true then 1 else 0)).toNat := by
          have := J1.2.2 hb
          omega
        intro e
        rw [e] at lps
        rw [← lps] at h1
        exact absurd h1 (by decide)
end
end Sw
set_option Elab.async false
set_option linter.all false
set_option maxRecDepth 100000
set_option maxHeartbeats 4000000
/-! The law's kinds. -/
namespace Sw
open PySem PySem.Spec PyProof.Rows L2
theorem KOk.snoc {ks : List KR} (ok : KOk ks) {r : KR} (h1 : r.nm ∉ ks.map (·.nm)) (h2 : r.nm ≠ numK) (h3 : ∀ p ∈ r.ps, Kd ks p.2) (h4 : r.alt = true → r.ps ≠ []) (h5 : (r.ps.map (·.1)).Nodup ∧ r.ps.length ≤ 4) (h6 : ks.length < 4) : KOk (ks ++ [r]) where
  nod := by
    rw [List.map_append]
    refine List.nodup_append.mpr ⟨ok.nod, by simp, fun a ha b hb e => ?_⟩
    rw [List.map_singleton, List.mem_singleton] at hb
    rw [e, hb] at ha
    exact h1 ha
  nnum := fun x hx => by
    rcases List.mem_append.mp hx with hx | hx
    · exact ok.nnum x hx
    · rw [List.mem_singleton.mp hx]; exact h2
  part := fun i x hx p hp => by
    by_cases c : i < ks.length
    · rw [List.getElem?_append_left c] at hx
      exact (ok.part i x hx p hp).append
    · rw [List.getElem?_append_right (by omega)] at hx
      obtain ⟨hl, e⟩ := List.getElem?_eq_some_iff.mp hx
      rw [List.length_singleton] at hl
      have ie : i = ks.length := by omega
      subst ie
      have : x = r := by
        rw [← e]
        simp
      rw [this] at hp
      exact (h3 p hp).append
  alt := fun x hx => by
    rcases List.mem_append.mp hx with hx | hx
    · exact ok.alt x hx
    · rw [List.mem_singleton.mp hx]; exact h4
  pn := fun x hx => by
    rcases List.mem_append.mp hx with hx | hx
    · exact ok.pn x hx
    · rw [List.mem_singleton.mp hx]; exact h5
  len := by rw [List.length_append, List.length_singleton]; omega
theorem KOk.nil : KOk [] := ⟨List.nodup_nil, fun _ h => absurd h List.not_mem_nil, fun i r h => (by rw [List.getElem?_nil] at h; cases h), fun _ h => absurd h List.not_mem_nil, fun _ h => absurd h List.not_mem_nil, by decide⟩
theorem NmOk.ne_num {ws : List Str} (h : NmOk ws) {w : Str} (hw : w ∈ ws) : w ≠ numK := fun z => notGood_num (by rw [← z]; exact h.good w hw)
section
variable {P : Program} {w : World} {K : PySem.W.Frag} {mg : Str → Option Value} {base : Heap}
def spGKinds : Sp := fun vs H Q _ => ∃ (f nl : Addr) (ws : List Str), vs = [.ref f, .ref nl] ∧ Feed H f ∧ H nl = some (.lst (ws.map V.str)) ∧ nl ≠ f ∧ NmOk ws ∧
  ∀ (v : V) (ks : List KR) (H' : Hp), Go f H H' → Im H' v (.tuple (ks.map KR.d)) → KOk ks → Q v H'
theorem calGKinds (T : Txt K mg) : C8.Cal P w K mg base 9 "_law_kinds" spGKinds [] := by
  have cGTake := calGTake (P := P) (w := w) (base := base) T
  have cGParts := calGParts (P := P) (w := w) (base := base) T
  refine mkCal (k := 8) T.fGKinds scGKinds T.glo__law_kinds (fun _ _ _ _ _ _ us hl => match us, hl with | [_, _], _ => rfl) (fun vs H Q E h => ?_) (fun cdv A outer s H vs Q E hr h => ?_)
  · obtain ⟨f, nl, ws, rfl, _⟩ := h
    rfl
  obtain ⟨f, nl, ws, rfl, hf, hnl, nlf, nm, q⟩ := h
  have hu := hu_of hr
  have wl := nm.len
  refine ⟨_, PSs.nox (pss_cons (ps_set (i := 2) scGKinds.nd rfl (Or.inl rfl) (pe_lst pa_nil))
      (pss_cons (ps_for PassesOwn.never rfl (pi_range1 rfl T.free_range (pa_cons (C8.pe_c cGTake hr (by omega) rfl (pa_cons (pv 0) (pa_cons pe_int pa_nil))) pa_nil)) (pg_name (i := 3) scGKinds.nd rfl (Or.inl rfl))
        (pss_cons (ps_set (i := 4) scGKinds.nd rfl (Or.inl rfl) (pe_ix (ix_listK (K := K) rfl) (pe_lst (pa_cons pe_str (pa_cons pe_str pa_nil))) (C8.pe_c cGTake hr (by omega) rfl (pa_cons (pv 0) (pa_cons pe_int pa_nil))) (fun _ _ => rfl)))
          (pss_one (ps_expr (pe_bm PySem.F.plainAttrs_list PySem.F.slot_list_append PySem.F.type_list_append mt_append (pv 2) (pa_cons (pe_tup (pa_cons (pe_ix (ix_listK (K := K) rfl) (pv 1) (pv 3) (fun _ _ => rfl)) (pa_cons (pv 4) (pa_cons (C8.pe_c cGParts hr (by omega) rfl (pa_cons (pv 0) (pa_cons (pv 2) (pa_cons (pv 4) (pa_cons (pe_slice sl_list (pv 1) (po_some pe_int) (po_some pe_int)) pa_nil))))) pa_nil)))) pa_nil))))))
      (pss_one (ps_ret (pe_callTy call_tuple_of (by rfl) T.free_tuple (by decide +kernel) (pa_cons (pv 2) pa_nil)))))), ?_⟩
  refine ⟨sz, fun kl nkl => ?_⟩
  have klf := hf.ne nkl
  have s0 : Same H (upd H kl (.lst [])) := same_new nkl _
  have hf0 := hf.same s0
  have kl0 : upd H kl (.lst []) kl = some (.lst []) := upd_same
  generalize upd H kl (.lst []) = H0 at s0 hf0 kl0
  have klnl : kl ≠ nl := fun z => by rw [z, hnl] at nkl; cases nkl
  refine ⟨_, rfl, f, 5, rfl, hf0, by decide, by decide, fun r H1 r0 r1 g1 => ?_⟩
  refine ⟨_, rfl, by omega, by omega, for_it walk_range (fun i σ H' => (∃ c3 c4, σ = [some (.ref f), some (.ref nl), some (.ref kl), c3, c4]) ∧ Go f H H' ∧ ∃ (xs : List V) (ks : List KR), H' kl = some (.lst xs) ∧ Ims H' xs (ks.map KR.d) ∧ KOk ks ∧ ks.map (·.nm) = ws.take i ∧ ks.length = i)
    ⟨⟨_, _, rfl⟩, (Go.of hf s0).tr g1, [], [], g1.at kl0 klf, .nil, KOk.nil, rfl, rfl⟩ (fun _ _ _ _ _ => trivial) ?_ ?_⟩
  · rintro i y σ H3 H3' hi ⟨⟨c3, c4, rfl⟩, G3, xs, ks, hkl, ixs, ok, nks, lks⟩ ⟨rfl, rfl⟩
    have hi4 : i < 4 := by omega
    have xl := ixs.length
    rw [List.length_map] at xl
    refine ⟨sz, fun a1 na1 => ?_⟩
    have s4 : Same H3' (upd H3' a1 (.lst [.str "rec", .str "alt"])) := same_new na1 _
    have ha1 : upd H3' a1 (.lst [.str "rec", .str "alt"]) a1 = some (.lst [.str "rec", .str "alt"]) := upd_same
    have a1f := G3.2.ne na1
    have F4 := G3.2.same s4
    refine ⟨_, rfl, f, 2, rfl, F4, by decide, by decide, fun r5 H5 r50 r51 g5 => ?_⟩
    have G5 : Go f H H5 := (G3.sm s4).tr g5
    obtain ⟨b, hb⟩ : ∃ b, atI [V.str "rec", V.str "alt"] r5 = some (.str (sortS b)) := by
      by_cases c : r5 = 0
      · exact ⟨false, by rw [c]; exact at0⟩
      · exact ⟨true, by rw [show r5 = 1 by omega]; exact at1⟩
    refine ⟨a1, _, _, _, rfl, rfl, SqL.of (g5.at ha1 a1f), hb, ?_⟩
    have kl5 : H5 kl = some (.lst xs) := g5.at (s4 _ _ hkl) klf
    have nl5 := G5.at hnl nlf
    have ixs5 : Ims H5 xs (ks.map KR.d) := (ixs.mono (ts_same s4)).mono (F4.ts g5)
    obtain ⟨nm0, hnm⟩ : ∃ n, ws[i]? = some n := ⟨_, List.getElem?_eq_getElem (by omega)⟩
    have zi : (0 : Int) + (i : Int) = ((i : Nat) : Int) := Int.zero_add _
    have ai : atI (ws.map V.str) (0 + (i : Int)) = some (.str nm0) := by rw [zi]; exact atI_nat (by rw [List.getElem?_map, hnm]; rfl)
    have ce : cutV (ws.map V.str) (some 8) (some 12) = ((ws.drop 8).take 4).map V.str := by
      unfold cutV
      rw [show (some 8 : Option Int) = some ((8 : Nat) : Int) from rfl, show (some 12 : Option Int) = some ((12 : Nat) : Int) from rfl, HT.sIx_nat, HT.sIx_nat, List.length_map, wl, List.map_take, List.map_drop]
      rfl
    refine ⟨_, rfl, .inl ⟨rfl, _, SqL.of kl5⟩, _, rfl, _, rfl, _, _, _, _, rfl, rfl, SqL.of nl5, ai, _, rfl, _, rfl, _, rfl, _, rfl, _, rfl, _, rfl, _, rfl, nl, _, rfl, SqL.of nl5, fun p np => ?_⟩
    rw [ce]
    have s6 : Same H5 (upd H5 p (.lst (((ws.drop 8).take 4).map V.str))) := same_new np _
    have hp6 : upd H5 p (.lst (((ws.drop 8).take 4).map V.str)) p = some (.lst (((ws.drop 8).take 4).map V.str)) := upd_same
    have pf := G5.2.ne np
    generalize upd H5 p (.lst (((ws.drop 8).take 4).map V.str)) = H6 at s6 hp6
    have F6 := G5.2.same s6
    refine ⟨f, kl, p, b, ks, xs, (ws.drop 8).take 4, rfl, F6, s6 _ _ kl5, klf, ixs5.mono (ts_same s6), ok, hp6, pf, by rw [List.length_take, List.length_drop, wl]; rfl, ((List.take_sublist _ _).trans (List.drop_sublist _ _)).nodup nm.nod, fun v ps H7 g7 iv kps nps lps altp => ?_⟩
    have G7 : Go f H H7 := (G5.sm s6).tr g7
    have kl7 := g7.at (s6 _ _ kl5) klf
    have ixs7 : Ims H7 xs (ks.map KR.d) := (ixs5.mono (ts_same s6)).mono (F6.ts g7)
    refine ⟨sz, fun t nt => ?_⟩
    have s8 : Same H7 (upd H7 t (.tup [.str nm0, .str (sortS b), v])) := same_new nt _
    refine ⟨kl, _, _, rfl, rfl, s8 _ _ kl7, small1000 (by omega), ?_⟩
    have ht8 : upd H7 t (.tup [.str nm0, .str (sortS b), v]) t = some (.tup [.str nm0, .str (sortS b), v]) := upd_same
    have kl8 := s8 _ _ kl7
    have ixs8 := ixs7.mono (ts_same s8)
    have iv8 := iv.mono (ts_same s8)
    have G8 : Go f H (upd H7 t (.tup [.str nm0, .str (sortS b), v])) := G7.sm s8
    generalize upd H7 t (.tup [.str nm0, .str (sortS b), v]) = H8 at ht8 kl8 ixs8 iv8 G8
    have tsp : TS H8 (upd H8 kl (.lst (xs ++ [.ref t]))) := ts_lst kl8
    have nmem : nm0 ∉ ks.map (·.nm) := by
      rw [nks]
      have := nodup_take_ne (f := id) (by rw [List.map_id]; exact nm.nod) hnm
      rw [List.map_id] at this
      exact this
    refine ⟨⟨_, _, rfl⟩, ⟨fun b' o e n => ?_, G8.2.put klf⟩, xs ++ [.ref t], ks ++ [⟨nm0, b, ps⟩], upd_same, ?_, ok.snoc nmem (nm.ne_num (List.mem_of_getElem? hnm)) kps altp ⟨nps, lps⟩ (by omega), ?_, by rw [List.length_append, lks]; rfl⟩
    · rw [upd_ne (fun z => by rw [z, nkl] at e; cases e)]
      exact G8.1 b' o e n
    · rw [List.map_append]
      exact (ixs8.mono tsp).snoc (.tup (tsp _ _ ht8) (.cons (.str _) (.cons (.str _) (.cons (iv8.mono tsp) .nil))))
    · rw [List.map_append, nks, List.take_succ, hnm]
      rfl
  · rintro σ H3 ⟨⟨c3, c4, rfl⟩, G3, xs, ks, hkl, ixs, ok, nks, lks⟩
    refine ⟨_, rfl, kl, xs, rfl, .inl ⟨SqL.of hkl, fun t nt => ?_⟩⟩
    have s5 : Same H3 (upd H3 t (.tup xs)) := same_new nt _
    exact q _ ks _ (G3.sm s5) (.tup upd_same (ixs.mono (ts_same s5))) ok
end
end Sw
set_option Elab.async false
set_option linter.all false
set_option maxRecDepth 100000
set_option maxHeartbeats 4000000
/-! The law's terms: what stands around, boxed, arms. -/
namespace Sw
open PySem PySem.Spec PyProof.Rows L2
def byN (j : Nat) : Str := ("by" : Str) ++ (⟨#[97 + j]⟩ : Str)
theorem byN_inj {i j : Nat} (h : byN i = byN j) : i = j := by
  have := congrArg TL.tl h
  unfold byN at this
  rw [TL.tl_append, TL.tl_append] at this
  have h2 := List.append_cancel_left this
  have h3 : [97 + i] = [97 + j] := h2
  injection h3 with h4
  omega
theorem notGood_by (j : Nat) (h : j < 8) : ¬ Good (byN j) := by
  have e : TL.tl (byN j) = [98, 121, 97 + j] := by
    unfold byN
    rw [TL.tl_append]
    have : TL.tl ("by" : Str) = [98, 121] := by decide +kernel
    rw [this]
    rfl
  unfold Good
  rw [e]
  have : ([98, 121, 97 + j] : List Nat).filter outX = [98, 121, 97 + j].filter outX := rfl
  match j, h with
  | 0, _ | 1, _ | 2, _ | 3, _ | 4, _ | 5, _ | 6, _ | 7, _ => decide
theorem abch_at {j : Nat} (h : j < 8) : atI (TL.tl ("abcdefgh" : Str)) (j : Int) = some (97 + j) := by
  have e : TL.tl ("abcdefgh" : Str) = [97, 98, 99, 100, 101, 102, 103, 104] := by decide +kernel
  rw [e]
  refine atI_nat ?_
  match j, h with
  | 0, _ | 1, _ | 2, _ | 3, _ | 4, _ | 5, _ | 6, _ | 7, _ => rfl
theorem smA_le {ks : List KR} (ok : KOk ks) : ∀ (n : Nat) (k : Str), 1 ≤ smA ks n k ∧ smA ks n k ≤ 5 ^ n
  | 0, k => ⟨Nat.le_refl _, Nat.le_refl _⟩
  | n + 1, k => by
    have ih := smA_le ok n
    unfold smA
    split
    · have := ih ((pOfK ks k).head?.map (·.2) |>.getD numK)
      rw [Nat.pow_succ]
      omega
    · have h4 := (pOfK_ok ok k).2
      have : ∀ (l : List (Str × Str)), (l.map fun p => smA ks n p.2).sum ≤ l.length * 5 ^ n := fun l => by
        induction l with
        | nil => simp
        | cons p r ih2 =>
          rw [List.map_cons, List.sum_cons, List.length_cons, Nat.succ_mul]
          have := (ih p.2).2
          omega
      have h5 := this (pOfK ks k)
      have h6 : (pOfK ks k).length * 5 ^ n ≤ 4 * 5 ^ n := Nat.mul_le_mul_right _ h4
      have h7 : 0 < 5 ^ n := Nat.pos_of_ne_zero (by simp)
      rw [Nat.pow_succ]
      omega
theorem smK_le {ks : List KR} (ok : KOk ks) (k : Str) : 1 ≤ smK ks k ∧ smK ks k ≤ 3125 := smA_le ok 5 k
theorem smK_num {ks : List KR} (ok : KOk ks) : smK ks numK = 1 := by
  have e1 : sOfK ks numK = numK := by unfold sOfK; rw [row_num ok]
  have e2 : pOfK ks numK = [] := by unfold pOfK; rw [row_num ok]
  unfold smK smA
  rw [if_neg (by rw [e1]; decide +kernel), e2]
  rfl
theorem smK_alt {ks : List KR} (ok : KOk ks) {k : Str} (hk : Kn ks 4 k) (ha : sOfK ks k = "alt") {p : Str × Str} {l : List (Str × Str)} (ep : pOfK ks k = p :: l) : smK ks k = 1 + smK ks p.2 := by
  obtain ⟨m, e, h⟩ := kn_parts ok hk p (by rw [ep]; exact List.mem_cons_self)
  have h1 : smK ks k = 1 + smA ks 4 p.2 := by
    unfold smK
    conv => lhs; unfold smA
    rw [if_pos ha, ep]
    rfl
  rw [h1]
  unfold smK
  rw [smA_eq ok h (by omega : m < 4) (by omega : m < 5)]
/-- what a term is made of -/
structure TCtx (H : Hp) (f : Addr) (kv : V) (bl : Addr) (ks : List KR) (g : Ctx) (d : Nat) : Prop where
  fd : Feed H f
  ka : KsAt H kv ks
  ok : KOk ks
  bx : ∃ gvs, H bl = some (.lst gvs) ∧ Ims H gvs (g.map partD)
  blf : bl ≠ f
  gn : (g.map (·.1)).Nodup
  gk : ∀ p ∈ g, Kd ks p.2
  gb : ∀ q ∈ g, ∀ j ≤ d, q.1 ≠ byN j
  gl : g.length + d ≤ 20
  d8 : d < 8
theorem TCtx.go {H H' : Hp} {f : Addr} {kv : V} {bl : Addr} {ks : List KR} {g : Ctx} {d : Nat} (c : TCtx H f kv bl ks g d) (go : Go f H H') : TCtx H' f kv bl ks g d := by
  obtain ⟨gvs, h1, h2⟩ := c.bx
  exact { c with fd := go.2, ka := c.ka.mono (c.fd.ts go), bx := ⟨gvs, go.at h1 c.blf, h2.mono (c.fd.ts go)⟩ }
theorem TCtx.same {H H' : Hp} {f : Addr} {kv : V} {bl : Addr} {ks : List KR} {g : Ctx} {d : Nat} (c : TCtx H f kv bl ks g d) (s : Same H H') : TCtx H' f kv bl ks g d := c.go (Go.of c.fd s)
theorem TCtx.low {H : Hp} {f : Addr} {kv : V} {bl : Addr} {ks : List KR} {g : Ctx} {d e : Nat} (c : TCtx H f kv bl ks g d) (h : e ≤ d) : TCtx H f kv bl ks g e :=
  { c with gb := fun q hq j hj => c.gb q hq j (Nat.le_trans hj h), gl := by have := c.gl; omega, d8 := Nat.lt_of_le_of_lt h c.d8 }
section
variable {P : Program} {w : World} {K : PySem.W.Frag} {mg : Str → Option Value} {base : Heap}
def spGTerm (n : Nat) : Sp := fun vs H Q _ => ∃ (f bl : Addr) (kv : V) (k : Str) (room : Int) (d m : Nat) (ks : List KR) (g : Ctx), vs = [.ref f, kv, .ref bl, .str k, .int room, .int (d : Int)] ∧ n = d + m + 1 ∧ TCtx H f kv bl ks g d ∧ Kn ks m k ∧ m ≤ 4 ∧ ((smK ks k : Nat) : Int) ≤ room ∧
  ∀ (v : V) (t : PyData) (H' : Hp), Go f H H' → Im H' v t → WT ks (d + m + 2) g k t → Q v H'
def spGBoxed : Sp := fun vs H Q _ => ∃ (f sl : Addr) (xs : List Str), vs = [.ref f, .ref sl] ∧ Feed H f ∧ H sl = some (.lst (xs.map V.str)) ∧ sl ≠ f ∧ xs ≠ [] ∧ xs.length ≤ 100 ∧
  ∀ (v : V) (x : Str) (H' : Hp), Go f H H' → x ∈ xs → Im H' v (.tuple [.str "box", .str x]) → Q v H'
/-- one of a list by a draw -/
theorem drawn {A : Type} {l : List A} {r : Int} (h0 : 0 ≤ r) (h1 : r < (l.length : Int)) : ∃ x, l[r.toNat]? = some x ∧ x ∈ l ∧ ∀ f : A → V, atI (l.map f) r = some (f x) := by
  obtain ⟨x, hx⟩ : ∃ x, l[r.toNat]? = some x := ⟨_, List.getElem?_eq_getElem (by omega)⟩
  refine ⟨x, hx, List.mem_of_getElem? hx, fun f => ?_⟩
  have e : r = ((r.toNat : Nat) : Int) := by omega
  rw [e]
  exact atI_nat (by rw [List.getElem?_map, hx]; rfl)
theorem calGBoxed (T : Txt K mg) : C8.Cal P w K mg base 2 "_law_boxed" spGBoxed [] := by
  have cGTake := calGTake (P := P) (w := w) (base := base) T
  refine mkCal (k := 1) T.fGBoxed scGBoxed T.glo__law_boxed (fun _ _ _ _ _ _ us hl => match us, hl with | [_, _], _ => rfl) (fun vs H Q E h => ?_) (fun cdv A outer s H vs Q E hr h => ?_)
  · obtain ⟨f, sl, xs, rfl, _⟩ := h
    rfl
  obtain ⟨f, sl, xs, rfl, hf, hsl, slf, ne, l100, q⟩ := h
  have hu := hu_of hr
  have l0 : 0 < xs.length := List.length_pos_iff.mpr ne
  refine ⟨_, PSs.nox (pss_one (ps_ret (pe_tup (pa_cons pe_str (pa_cons (pe_ix (ix_listK (K := K) rfl) (pv 1) (C8.pe_c cGTake hr (by omega) rfl (pa_cons (pv 0) (pa_cons (pe_callB (call_len_seqK (K := K) rfl) (by rfl) T.free_len PySem.boot_len (pa_cons (pv 1) pa_nil)) pa_nil))) (fun _ _ => rfl)) pa_nil))))), ?_⟩
  refine ⟨_, rfl, _, rfl, _, rfl, sl, _, rfl, .inl (SqL.of hsl), f, _, rfl, hf, by rw [List.length_map]; omega, by rw [List.length_map]; omega, fun r H1 r0 r1 g1 => ?_⟩
  rw [List.length_map] at r1
  obtain ⟨x, _, hx, ax⟩ := drawn r0 r1
  refine ⟨_, _, _, _, rfl, rfl, SqL.of (g1.at hsl slf), ax V.str, sz, fun t nt => ?_⟩
  exact q _ x _ (g1.sm (same_new nt _)) hx (.tup upd_same (.cons (.str _) (.cons (.str _) .nil)))
end
end Sw
set_option Elab.async false
set_option linter.all false
set_option maxRecDepth 100000
set_option maxHeartbeats 4000000
/-! The law's arms. -/
namespace Sw
open PySem PySem.Spec PyProof.Rows L2
section
variable {P : Program} {w : World} {K : PySem.W.Frag} {mg : Str → Option Value} {base : Heap}
def spGArms (n : Nat) : Sp := fun vs H Q _ => ∃ (f bl pa : Addr) (kv : V) (k : Str) (room : Int) (d m : Nat) (ks : List KR) (g : Ctx) (ps : List (Str × Str)) (pvs : List V),
  vs = [.ref f, kv, .ref bl, .ref pa, .str k, .int room, .int ((d + 1 : Nat) : Int)] ∧ n = d + m + 1 ∧ TCtx H f kv bl ks g (d + 1) ∧ Kn ks m k ∧ m ≤ 4 ∧ H pa = some (.tup pvs) ∧ Ims H pvs (ps.map partD) ∧ ps ≠ [] ∧ ps.length ≤ 4 ∧ (∀ p ∈ ps, Kd ks p.2) ∧ ((smK ks k : Nat) : Int) * (ps.length : Int) ≤ room ∧
  ∀ (v : V) (arms : List (Str × Str × PyData)) (H' : Hp), Go f H H' → Im H' v (.tuple (arms.map armD)) → (∀ p ∈ ps, ∃ a ∈ arms, a.1 = p.1) → (∀ a ∈ arms, a.2.1 = byN (d + 1) ∧ ∃ kk, (a.1, kk) ∈ ps ∧ WT ks (d + m + 2) (g ++ [(byN (d + 1), kk)]) k a.2.2) → Q v H'
theorem calGArms (T : Txt K mg) {n : Nat} (cGTerm : C8.Cal P w K mg base (2 * n + 7) "_law_term" (spGTerm n) []) : C8.Cal P w K mg base (2 * n + 8) "_law_arms" (spGArms n) [] := by
  have cGTake := calGTake (P := P) (w := w) (base := base) T
  refine mkCal (k := 2 * n + 7) T.fGArms scGArms T.glo__law_arms (fun _ _ _ _ _ _ us hl => match us, hl with | [_, _, _, _, _, _, _], _ => rfl) (fun vs H Q E h => ?_) (fun cdv A outer s H vs Q E hr h => ?_)
  · obtain ⟨f, bl, pa, kv, k, room, d, m, ks, g, ps, pvs, rfl, _⟩ := h
    rfl
  obtain ⟨f, bl, pa, kv, k, room, d, m, ks, g, ps, pvs, rfl, hn, tc, kn, m4, hpa, ipv, pne, pl4, pk, hroom, q⟩ := h
  have hu := hu_of hr
  have pvl := ipv.length
  rw [List.length_map] at pvl
  have pl0 : 0 < ps.length := List.length_pos_iff.mpr pne
  have each : ((smK ks k : Nat) : Int) ≤ room / (ps.length : Int) := Int.le_ediv_of_mul_le (by omega) hroom
  obtain ⟨gvs, hbl, igv⟩ := tc.bx
  have gvl := igv.length
  rw [List.length_map] at gvl
  have gl := tc.gl
  have d8 := tc.d8
  have paf : pa ≠ f := fun z => by
    obtain ⟨x, y, h1, _⟩ := tc.fd
    rw [← z, hpa] at h1
    cases h1
  refine ⟨_, PSs.nox (pss_cons (ps_set (i := 7) scGArms.nd rfl (Or.inl rfl) (pe_lst pa_nil))
      (pss_cons (ps_set (i := 8) scGArms.nd rfl (Or.inl rfl) (pe_op op_fdivW (pv 5) (pe_callB (call_len_seqK (K := K) rfl) (by rfl) T.free_len PySem.boot_len (pa_cons (pv 3) pa_nil))))
      (pss_cons (ps_for PassesOwn.never rfl (pi_tup (pv 3)) (pg_tupK (K := K) (n := 2) rfl rfl (pgs_cons (pg_name (i := 9) scGArms.nd rfl (Or.inl rfl)) (pgs_cons (pg_name (i := 10) scGArms.nd rfl (Or.inl rfl)) pgs_nil)))
        (pss_cons (ps_set (i := 11) scGArms.nd rfl (Or.inl rfl) (pe_op op_add_str pe_str (pe_ix ix_str pe_str (pv 6) (fun _ _ => rfl))))
          (pss_one (ps_expr (pe_bm PySem.F.plainAttrs_list PySem.F.slot_list_append PySem.F.type_list_append mt_append (pv 7) (pa_cons (pe_tup (pa_cons (pv 9) (pa_cons (pv 11) (pa_cons (C8.pe_c cGTerm hr (by omega) rfl (pa_cons (pv 0) (pa_cons (pv 1) (pa_cons (pe_op op_cat (pv 2) (pe_lst (pa_cons (pe_tup (pa_cons (pv 11) (pa_cons (pv 10) pa_nil))) pa_nil))) (pa_cons (pv 4) (pa_cons (pv 8) (pa_cons (pe_op op_sub (pv 6) pe_int) pa_nil))))))) pa_nil)))) pa_nil))))))
      (C8.pss_cut (ps_if (pt_cmpR op_eq (C8.pe_c cGTake hr (by omega) rfl (pa_cons (pv 0) (pa_cons pe_int pa_nil))) pe_int (nomark _)) (pss_one (ps_expr (pe_bm0 PySem.F.plainAttrs_list PySem.F.slot_list_reverse PySem.F.type_list_reverse mt_reverse (pv 7)))) pss_nil)
      (pss_one (ps_ret (pe_callTy call_tuple_of (by rfl) T.free_tuple (by decide +kernel) (pa_cons (pv 7) pa_nil)))))))), ?_⟩
  refine ⟨sz, fun al nal => ?_⟩
  have alf := tc.fd.ne nal
  have s0 : Same H (upd H al (.lst [])) := same_new nal _
  have al0 : upd H al (.lst []) al = some (.lst []) := upd_same
  generalize upd H al (.lst []) = H0 at s0 al0
  refine ⟨_, rfl, _, rfl, pa, _, rfl, .inr (SqT.of (s0 _ _ hpa)), _, _, rfl, rfl, divw (by rw [pvl]; omega) (by rw [pvl]; omega), ?_⟩
  rw [pvl]
  refine ⟨_, rfl, pa, rfl, ⟨_, SqT.of (s0 _ _ hpa)⟩, for_it (walk_tup (K := K) (a := pa) (xs := pvs)) (fun i σ H' => (∃ c9 c10 c11, σ = [some (.ref f), some kv, some (.ref bl), some (.ref pa), some (.str k), some (.int room), some (.int ((d + 1 : Nat) : Int)), some (.ref al), some (.int (room / (ps.length : Int))), c9, c10, c11]) ∧
      Go f H H' ∧ ∃ (xs : List V) (arms : List (Str × Str × PyData)), H' al = some (.lst xs) ∧ Ims H' xs (arms.map armD) ∧ arms.map (·.1) = (ps.take i).map (·.1) ∧ arms.length = i ∧ ∀ a ∈ arms, a.2.1 = byN (d + 1) ∧ ∃ kk, (a.1, kk) ∈ ps ∧ WT ks (d + m + 2) (g ++ [(byN (d + 1), kk)]) k a.2.2)
    ⟨⟨_, _, _, rfl⟩, Go.of tc.fd s0, [], [], al0, .nil, rfl, rfl, fun a ha => absurd ha List.not_mem_nil⟩ (fun i σ H' _ hP => SqT.of (hP.2.1.at hpa paf)) ?_ ?_⟩
  · rintro i y σ H1 H2 hi ⟨⟨c9, c10, c11, rfl⟩, G1, xs, arms, hal, ixs, an, al', aok⟩ ⟨rfl, hy⟩
    have tc1 := tc.go G1
    obtain ⟨e, he, ie⟩ := ipv.of hy
    rw [List.getElem?_map] at he
    obtain ⟨p, hp, rfl⟩ := Option.map_eq_some_iff.mp he
    obtain ⟨ta, w1, w2, rfl, hta, j1, j2⟩ := (ie.mono (tc.fd.ts G1)).t2
    cases j1.strE
    cases j2.strE
    have pm : p ∈ ps := List.mem_of_getElem? hp
    have xl := ixs.length
    rw [List.length_map] at xl
    have hbl1 := G1.at hbl tc.blf
    refine ⟨_, _, rfl, SqT.of hta, rfl, _, _, rfl, _, _, rfl, rfl, ?_⟩
    refine ⟨_, rfl, _, _, 97 + (d + 1), rfl, rfl, by decide +kernel, abch_at (by omega), _, _, rfl, rfl, Nat.le_of_lt (small1000 (by show ("by" : Str).length + 1 ≤ 1000; decide +kernel)), ?_⟩
    refine ⟨_, rfl, .inl ⟨rfl, _, SqL.of hal⟩, _, rfl, _, rfl, _, rfl, _, rfl, _, rfl, _, rfl, _, rfl, sz, fun t1 nt1 => ?_⟩
    have s2 : Same H2 (upd H2 t1 (.tup [.str (("by" : Str) ++ (⟨#[97 + (d + 1)]⟩ : Str)), .str p.2])) := same_new nt1 _
    have ht1 : upd H2 t1 (.tup [.str (("by" : Str) ++ (⟨#[97 + (d + 1)]⟩ : Str)), .str p.2]) t1 = some (.tup [.str (("by" : Str) ++ (⟨#[97 + (d + 1)]⟩ : Str)), .str p.2]) := upd_same
    refine ⟨sz, fun l1 nl1 => ?_⟩
    have s3 : Same H2 (upd (upd H2 t1 (.tup [.str (("by" : Str) ++ (⟨#[97 + (d + 1)]⟩ : Str)), .str p.2])) l1 (.lst [.ref t1])) := Same.tr s2 (same_new nl1 _)
    have ht1' : upd (upd H2 t1 (.tup [.str (("by" : Str) ++ (⟨#[97 + (d + 1)]⟩ : Str)), .str p.2])) l1 (.lst [.ref t1]) t1 = some (.tup [.str (("by" : Str) ++ (⟨#[97 + (d + 1)]⟩ : Str)), .str p.2]) := same_new nl1 _ _ _ ht1
    have hl1 : upd (upd H2 t1 (.tup [.str (("by" : Str) ++ (⟨#[97 + (d + 1)]⟩ : Str)), .str p.2])) l1 (.lst [.ref t1]) l1 = some (.lst [.ref t1]) := upd_same
    refine ⟨bl, l1, _, _, rfl, rfl, s3 _ _ hbl1, hl1, Nat.le_of_lt (small1000 (by rw [List.length_singleton]; omega)), fun b2 nb2 => ?_⟩
    have s4 : Same H2 (upd (upd (upd H2 t1 (.tup [.str (("by" : Str) ++ (⟨#[97 + (d + 1)]⟩ : Str)), .str p.2])) l1 (.lst [.ref t1])) b2 (.lst (gvs ++ [.ref t1]))) := Same.tr s3 (same_new nb2 _)
    have ht4 := (same_new nb2 (.lst (gvs ++ [.ref t1]))) _ _ ht1'
    have hb4 : upd (upd (upd H2 t1 (.tup [.str (("by" : Str) ++ (⟨#[97 + (d + 1)]⟩ : Str)), .str p.2])) l1 (.lst [.ref t1])) b2 (.lst (gvs ++ [.ref t1])) b2 = some (.lst (gvs ++ [.ref t1])) := upd_same
    have b2f : b2 ≠ f := (tc1.fd.same s3).ne nb2
    generalize upd (upd (upd H2 t1 (.tup [.str (("by" : Str) ++ (⟨#[97 + (d + 1)]⟩ : Str)), .str p.2])) l1 (.lst [.ref t1])) b2 (.lst (gvs ++ [.ref t1])) = H4 at s4 ht4 hb4
    have tc4 := tc1.same s4
    have de : ((d + 1 : Nat) : Int) - 1 = ((d : Nat) : Int) := by omega
    refine ⟨_, rfl, _, rfl, _, rfl, _, _, rfl, rfl, f, b2, kv, k, room / (ps.length : Int), d, m, ks, g ++ [(byN (d + 1), p.2)], ?_, hn, ?_, kn, m4, each, fun v t H5 g5 iv wt => ?_⟩
    · show [V.ref f, kv, V.ref b2, V.str k, V.int (room / (ps.length : Int)), V.int (((d + 1 : Nat) : Int) - 1)] = _
      rw [de]
    · exact { tc4 with
        bx := ⟨_, hb4, by
          rw [List.map_append]
          exact ((igv.mono (tc.fd.ts G1)).mono (ts_same s4)).snoc (.tup ht4 (.cons (.str _) (.cons (.str _) .nil)))⟩
        blf := b2f
        gn := by
          rw [List.map_append]
          refine List.nodup_append.mpr ⟨tc.gn, by simp, fun a ha b hb e => ?_⟩
          rw [List.map_singleton, List.mem_singleton] at hb
          obtain ⟨q0, hq, rfl⟩ := List.mem_map.mp ha
          exact tc.gb q0 hq (d + 1) (Nat.le_refl _) (e.trans hb)
        gk := fun q0 hq => by
          rcases List.mem_append.mp hq with hq | hq
          · exact tc.gk q0 hq
          · rw [List.mem_singleton.mp hq]; exact pk p pm
        gb := fun q0 hq j hj => by
          rcases List.mem_append.mp hq with hq | hq
          · exact tc.gb q0 hq j (by omega)
          · rw [List.mem_singleton.mp hq]
            exact fun z => by have := byN_inj z; omega
        gl := by rw [List.length_append, List.length_singleton]; omega
        d8 := by omega }
    · have G5 : Go f H H5 := (G1.sm s4).tr g5
      have ixs5 : Ims H5 xs (arms.map armD) := (ixs.mono (ts_same s4)).mono (tc4.fd.ts g5)
      have hal5 := g5.at (s4 _ _ hal) alf
      refine ⟨sz, fun t2 nt2 => ?_⟩
      have s6 : Same H5 (upd H5 t2 (.tup [.str p.1, .str (("by" : Str) ++ (⟨#[97 + (d + 1)]⟩ : Str)), v])) := same_new nt2 _
      have ht2 : upd H5 t2 (.tup [.str p.1, .str (("by" : Str) ++ (⟨#[97 + (d + 1)]⟩ : Str)), v]) t2 = some (.tup [.str p.1, .str (("by" : Str) ++ (⟨#[97 + (d + 1)]⟩ : Str)), v]) := upd_same
      refine ⟨al, _, _, rfl, rfl, s6 _ _ hal5, small1000 (by omega), ?_⟩
      have hal6 := s6 _ _ hal5
      have G6 : Go f H (upd H5 t2 (.tup [.str p.1, .str (("by" : Str) ++ (⟨#[97 + (d + 1)]⟩ : Str)), v])) := G5.sm s6
      have ixs6 := ixs5.mono (ts_same s6)
      have iv6 := iv.mono (ts_same s6)
      generalize upd H5 t2 (.tup [.str p.1, .str (("by" : Str) ++ (⟨#[97 + (d + 1)]⟩ : Str)), v]) = H6 at ht2 hal6 G6 ixs6 iv6
      have tsp : TS H6 (upd H6 al (.lst (xs ++ [.ref t2]))) := ts_lst hal6
      refine ⟨⟨_, _, _, rfl⟩, ⟨fun b' o e n => ?_, G6.2.put alf⟩, xs ++ [.ref t2], arms ++ [(p.1, byN (d + 1), t)], upd_same, ?_, ?_, by rw [List.length_append, al']; rfl, fun a ha => ?_⟩
      · rw [upd_ne (fun z => by rw [z, nal] at e; cases e)]
        exact G6.1 b' o e n
      · rw [List.map_append]
        exact (ixs6.mono tsp).snoc (.tup (tsp _ _ ht2) (.cons (.str _) (.cons (.str _) (.cons (iv6.mono tsp) .nil))))
      · rw [List.map_append, an, List.take_succ, hp, List.map_append]
        rfl
      · rcases List.mem_append.mp ha with ha | ha
        · exact aok a ha
        · rw [List.mem_singleton.mp ha]
          exact ⟨rfl, p.2, pm, wt⟩
  · rintro σ H1 ⟨⟨c9, c10, c11, rfl⟩, G1, xs, arms, hal, ixs, an, al', aok⟩
    rw [List.take_of_length_le (by omega)] at an
    have xl := ixs.length
    rw [List.length_map] at xl
    have ret : ∀ (H2 : Hp) (xs : List V) (arms : List (Str × Str × PyData)), Go f H H2 → H2 al = some (.lst xs) → Ims H2 xs (arms.map armD) → (∀ p ∈ ps, ∃ a ∈ arms, a.1 = p.1) → (∀ a ∈ arms, a.2.1 = byN (d + 1) ∧ ∃ kk, (a.1, kk) ∈ ps ∧ WT ks (d + m + 2) (g ++ [(byN (d + 1), kk)]) k a.2.2) → ∀ t, H2 t = none → Q (.ref t) (upd H2 t (.tup xs)) := fun H2 xs arms G2 h2 ix2 c1 c2 t nt => by
      have s3 : Same H2 (upd H2 t (.tup xs)) := same_new nt _
      exact q _ arms _ (G2.sm s3) (.tup upd_same (ix2.mono (ts_same s3))) c1 c2
    have cov : ∀ p ∈ ps, ∃ a ∈ arms, a.1 = p.1 := fun p hp => by
      have : p.1 ∈ arms.map (·.1) := by rw [an]; exact List.mem_map_of_mem (f := (·.1)) hp
      obtain ⟨a, ha, e⟩ := List.mem_map.mp this
      exact ⟨a, ha, e⟩
    refine ⟨fun σ' H' => (∃ c9 c10 c11, σ' = [some (.ref f), some kv, some (.ref bl), some (.ref pa), some (.str k), some (.int room), some (.int ((d + 1 : Nat) : Int)), some (.ref al), some (.int (room / (ps.length : Int))), c9, c10, c11]) ∧ Go f H H' ∧ ∃ (xs : List V) (arms : List (Str × Str × PyData)), H' al = some (.lst xs) ∧ Ims H' xs (arms.map armD) ∧ (∀ p ∈ ps, ∃ a ∈ arms, a.1 = p.1) ∧ (∀ a ∈ arms, a.2.1 = byN (d + 1) ∧ ∃ kk, (a.1, kk) ∈ ps ∧ WT ks (d + m + 2) (g ++ [(byN (d + 1), kk)]) k a.2.2), ?_, ?_⟩
    · refine ⟨_, rfl, f, 2, rfl, G1.2, by decide, by decide, fun r H2 r0 r1 g2 => ⟨rfl, _, rfl, ?_⟩⟩
      have G2 := G1.tr g2
      have hal2 := g2.at hal alf
      have ixs2 : Ims H2 xs (arms.map armD) := ixs.mono (G1.2.ts g2)
      refine ite2 (fun c => ?_) (fun c => ?_)
      · refine ⟨_, rfl, .inl ⟨rfl, _, SqL.of hal2⟩, al, _, rfl, rfl, hal2, ?_⟩
        have tsp : TS H2 (upd H2 al (.lst xs.reverse)) := ts_lst hal2
        refine ⟨⟨_, _, _, rfl⟩, ⟨fun b' o e n => ?_, G2.2.put alf⟩, xs.reverse, arms.reverse, upd_same, ?_, fun p hp => ?_, fun a ha => aok a (List.mem_reverse.mp ha)⟩
        · rw [upd_ne (fun z => by rw [z, nal] at e; cases e)]
          exact G2.1 b' o e n
        · rw [List.map_reverse]
          exact (ixs2.mono tsp).rev
        · obtain ⟨a, ha, e⟩ := cov p hp
          exact ⟨a, List.mem_reverse.mpr ha, e⟩
      · exact ⟨⟨_, _, _, rfl⟩, G2, xs, arms, hal2, ixs2, cov, aok⟩
    · rintro σ2 H2 ⟨⟨c9, c10, c11, rfl⟩, G2, xs, arms, hal2, ixs2, c1, c2⟩
      exact ⟨_, rfl, al, xs, rfl, .inl ⟨SqL.of hal2, ret H2 xs arms G2 hal2 ixs2 c1 c2⟩⟩
end
end Sw
set_option Elab.async false
set_option linter.all false
set_option maxRecDepth 100000
set_option maxHeartbeats 4000000
/-! The law's whole terms. -/
namespace Sw
open PySem PySem.Spec PyProof.Rows L2
theorem kind_cases {ks : List KR} (ok : KOk ks) {m : Nat} {k : Str} (h : Kn ks m k) : (k = numK ∧ sOfK ks k = numK ∧ pOfK ks k = []) ∨ ∃ r m', m = m' + 1 ∧ row ks k = some r ∧ sOfK ks k = sortS r.alt ∧ pOfK ks k = r.ps ∧ ∀ p ∈ r.ps, Kn ks m' p.2 := by
  by_cases e : k = numK
  · subst e
    refine .inl ⟨rfl, ?_, ?_⟩
    · unfold sOfK; rw [row_num ok]
    · unfold pOfK; rw [row_num ok]
  · cases m with
    | zero => exact absurd (KOk.none0 h) e
    | succ m' =>
      obtain ⟨r, hr, hp⟩ := ok.step h e
      refine .inr ⟨r, m', rfl, hr, ?_, ?_, hp⟩
      · unfold sOfK; rw [hr]
      · unfold pOfK; rw [hr]
theorem iteT' {A B : Prop} {b : Bool} (h : b = true) (x : A) : if b = true then A else B := by rw [if_pos h]; exact x
theorem iteF' {A B : Prop} {b : Bool} (h : b = false) (x : B) : if b = true then A else B := by rw [if_neg (by rw [h]; exact Bool.false_ne_true)]; exact x
theorem ops_tl : TL.tl ("+-*<=" : Str) = [43, 45, 42, 60, 61] := by decide +kernel
theorem sort_num (b : Bool) : sortS b ≠ numK := by cases b <;> decide +kernel
section
variable {P : Program} {w : World} {K : PySem.W.Frag} {mg : Str → Option Value} {base : Heap}
def spGWholeTerm (n : Nat) : Sp := fun vs H Q _ => ∃ (f bl : Addr) (kv : V) (k : Str) (room : Int) (d m : Nat) (ks : List KR) (g : Ctx), vs = [.ref f, kv, .ref bl, .str k, .int room, .int (d : Int)] ∧ n = d + m ∧ TCtx H f kv bl ks g d ∧ Kn ks m k ∧ m ≤ 4 ∧ ((smK ks k : Nat) : Int) ≤ room ∧
  ∀ (v : V) (t : PyData) (H' : Hp), Go f H H' → Im H' v t → WT ks (d + m + 2) g k t → Q v H'
theorem calGWholeTerm (T : Txt K mg) {n : Nat} (cGTerm : C8.Cal P w K mg base (2 * n + 7) "_law_term" (spGTerm n) []) : C8.Cal P w K mg base (2 * n + 8) "_law_whole_term" (spGWholeTerm n) [] := by
  have cGTake := calGTake (P := P) (w := w) (base := base) T
  have cGNumber := calGNumber (P := P) (w := w) (base := base) T
  have cGSortOf := calGSortOf (P := P) (w := w) (base := base) T
  have cGSmall := calGSmall (P := P) (w := w) (base := base) T 5
  refine mkCal (k := 2 * n + 7) T.fGWholeTerm scGWholeTerm T.glo__law_whole_term (fun _ _ _ _ _ _ us hl => match us, hl with | [_, _, _, _, _, _], _ => rfl) (fun vs H Q E h => ?_) (fun cdv A outer s H vs Q E hr h => ?_)
  · obtain ⟨f, bl, kv, k, room, d, m, ks, g, rfl, _⟩ := h
    rfl
  obtain ⟨f, bl, kv, k, room, d, m, ks, g, rfl, hn, tc, kn, m4, hroom, q⟩ := h
  have hu := hu_of hr
  have ok := tc.ok
  have sm1 := smK_le ok k
  have k4 : ∀ {k : Str}, Kd ks k → Kn ks 4 k := fun h => h.mono ok.len
  refine ⟨_, PSs.nox (pss_cons (ps_asg (C8.pe_c cGSortOf hr (by omega) rfl (pa_cons (pv 1) (pa_cons (pv 3) pa_nil))) (pg_tupK (K := K) (n := 2) rfl rfl (pgs_cons (pg_name (i := 6) scGWholeTerm.nd rfl (Or.inl rfl)) (pgs_cons (pg_name (i := 7) scGWholeTerm.nd rfl (Or.inl rfl)) pgs_nil))))
      (pss_cons (ps_if (pt_cmpR op_eq (pv 6) pe_str (nomark _)) (pss_cons (ps_if (PW.pt (pw_or (pt_cmpR op_lt (pv 4) pe_int (nomark _)) (pw_or (pt_cmpR op_eq (pv 5) pe_int (nomark _)) (pw_or1 (pt_cmpR op_eq (C8.pe_c cGTake hr (by omega) rfl (pa_cons (pv 0) (pa_cons pe_int pa_nil))) pe_int (nomark _)))))) (pss_one (ps_ret (pe_tup (pa_cons pe_str (pa_cons (C8.pe_c cGNumber hr (by omega) rfl (pa_cons (pv 0) pa_nil)) pa_nil))))) pss_nil)
        (pss_cons (ps_set (i := 8) scGWholeTerm.nd rfl (Or.inl rfl) (C8.pe_c cGTerm hr (by omega) rfl (pa_cons (pv 0) (pa_cons (pv 1) (pa_cons (pv 2) (pa_cons pe_str (pa_cons (pe_op op_fdivW (pe_op op_sub (pv 4) pe_int) pe_int) (pa_cons (pe_op op_sub (pv 5) pe_int) pa_nil))))))))
        (pss_cons (ps_set (i := 9) scGWholeTerm.nd rfl (Or.inl rfl) (C8.pe_c cGTerm hr (by omega) rfl (pa_cons (pv 0) (pa_cons (pv 1) (pa_cons (pv 2) (pa_cons pe_str (pa_cons (pe_op op_fdivW (pe_op op_sub (pv 4) pe_int) pe_int) (pa_cons (pe_op op_sub (pv 5) pe_int) pa_nil))))))))
        (pss_one (ps_ret (pe_tup (pa_cons pe_str (pa_cons (pe_ix ix_str pe_str (C8.pe_c cGTake hr (by omega) rfl (pa_cons (pv 0) (pa_cons pe_int pa_nil))) (fun _ _ => rfl)) (pa_cons (pv 8) (pa_cons (pv 9) pa_nil)))))))))) pss_nil)
      (pss_cons (ps_if (pt_cmpR op_eq (pv 6) pe_str (nomark _)) (pss_cons (ps_setLc (own := [("_law_part", 12)]) (i := 10) rfl scGWholeTerm.nd rfl rfl (sw_true rfl rfl rfl (by decide +kernel)) (pi_tup (pv 7)) (blkOk_by (N := nGWholeTerm) (sc := defScope sGWholeTerm) (by decide +kernel)) (fun _ _ _ _ _ => pg_name (i := 12) scGWholeTerm.nd rfl (Or.inl rfl)) (fun _ _ _ _ _ => pts_one (pt_cmpR op_lt (C8.pe_c cGSmall hr (by omega) rfl (pa_cons (pv 1) (pa_cons (pe_ix (ix_tupK (K := K) rfl) (pv 12) pe_int (fun _ _ => rfl)) pa_nil))) (pv 4) (nomark _))) (fun _ _ _ _ _ => pv 12))
        (pss_cons (ps_asg (pe_ix (ix_listK (K := K) rfl) (pv 10) (C8.pe_c cGTake hr (by omega) rfl (pa_cons (pv 0) (pa_cons (pe_callB (call_len_seqK (K := K) rfl) (by rfl) T.free_len PySem.boot_len (pa_cons (pv 10) pa_nil)) pa_nil))) (fun _ _ => rfl)) (pg_tupK (K := K) (n := 2) rfl rfl (pgs_cons (pg_name (i := 11) scGWholeTerm.nd rfl (Or.inl rfl)) (pgs_cons (pg_name (i := 12) scGWholeTerm.nd rfl (Or.inl rfl)) pgs_nil))))
        (pss_one (ps_ret (pe_tup (pa_cons pe_str (pa_cons (pv 3) (pa_cons (pv 11) (pa_cons (C8.pe_c cGTerm hr (by omega) rfl (pa_cons (pv 0) (pa_cons (pv 1) (pa_cons (pv 2) (pa_cons (pv 12) (pa_cons (pe_op op_sub (pv 4) pe_int) (pa_cons (pv 5) pa_nil))))))) pa_nil))))))))) pss_nil)
      (pss_cons (ps_set (i := 13) scGWholeTerm.nd rfl (Or.inl rfl) (pe_op op_sub (pv 4) (C8.pe_c cGSmall hr (by omega) rfl (pa_cons (pv 1) (pa_cons (pv 3) pa_nil)))))
      (pss_cons (ps_set (i := 14) scGWholeTerm.nd rfl (Or.inl rfl) (pe_lst pa_nil))
      (pss_cons (ps_for PassesOwn.never rfl (pi_tup (pv 7)) (pg_tupK (K := K) (n := 2) rfl rfl (pgs_cons (pg_name (i := 15) scGWholeTerm.nd rfl (Or.inl rfl)) (pgs_cons (pg_name (i := 12) scGWholeTerm.nd rfl (Or.inl rfl)) pgs_nil)))
        (pss_one (ps_expr (pe_bm PySem.F.plainAttrs_list PySem.F.slot_list_append PySem.F.type_list_append mt_append (pv 14) (pa_cons (C8.pe_c cGTerm hr (by omega) rfl (pa_cons (pv 0) (pa_cons (pv 1) (pa_cons (pv 2) (pa_cons (pv 12) (pa_cons (pe_op op_add (C8.pe_c cGSmall hr (by omega) rfl (pa_cons (pv 1) (pa_cons (pv 12) pa_nil))) (pe_op op_fdivW (pv 13) (pe_callB (call_len_seqK (K := K) rfl) (by rfl) T.free_len PySem.boot_len (pa_cons (pv 7) pa_nil)))) (pa_cons (pv 5) pa_nil))))))) pa_nil)))))
      (pss_one (ps_ret (pe_tup (pa_cons pe_str (pa_cons (pv 3) (pa_cons (pe_callTy call_tuple_of (by rfl) T.free_tuple (by decide +kernel) (pa_cons (pv 14) pa_nil)) pa_nil)))))))))))), ?_⟩
  refine ⟨_, rfl, _, rfl, kv, k, ks, rfl, tc.ka.e, fun t b xs H1 s1 ht hb ixs => ?_⟩
  refine ⟨_, _, rfl, SqT.of ht, rfl, _, _, rfl, _, _, rfl, rfl, ?_⟩
  have tc1 := tc.same s1
  have G1 : Go f H H1 := Go.of tc.fd s1
  have xl := ixs.length
  rw [List.length_map] at xl
  have pl4 := (pOfK_ok ok k).2
  refine ⟨_, rfl, rfl, _, rfl, ite2 (fun c => ?_) (fun c => ?_)⟩
  · -- num
    have en : sOfK ks k = numK := V.str.inj (of_decide_eq_true c)
    have ek : k = numK := by
      rcases kind_cases ok kn with ⟨e, _⟩ | ⟨r, m', _, _, e, _⟩
      · exact e
      · rw [e] at en
        exact absurd en (sort_num _)
    subst ek
    refine ⟨_, rfl, _, _, rfl, rfl, _, rfl, ite2 (fun _ => iteT ?_) (fun c3 => ?_)⟩
    · exact ⟨_, rfl, f, rfl, G1.2, fun z H2 z0 z1 g2 => ⟨sz, fun t nt => q _ _ _ ((G1.tr g2).sm (same_new nt _)) (.tup upd_same (.cons (.str _) (.cons (.int _) .nil))) (.num z0 z1)⟩⟩
    refine ⟨_, rfl, rfl, _, rfl, ite2 (fun _ => iteT ?_) (fun cd => ?_)⟩
    · exact ⟨_, rfl, f, rfl, G1.2, fun z H2 z0 z1 g2 => ⟨sz, fun t nt => q _ _ _ ((G1.tr g2).sm (same_new nt _)) (.tup upd_same (.cons (.str _) (.cons (.int _) .nil))) (.num z0 z1)⟩⟩
    refine ⟨_, rfl, f, 2, rfl, G1.2, by decide, by decide, fun r H2 r0 r1 g2 => ⟨rfl, _, rfl, ?_⟩⟩
    have G2 := G1.tr g2
    refine ite2 (fun _ => ?_) (fun _ => ?_)
    · exact ⟨_, rfl, f, rfl, G2.2, fun z H3 z0 z1 g3 => ⟨sz, fun t nt => q _ _ _ ((G2.tr g3).sm (same_new nt _)) (.tup upd_same (.cons (.str _) (.cons (.int _) .nil))) (.num z0 z1)⟩⟩
    have r3 : ¬ room < 3 := fun z => c3 (decide_eq_true z)
    have d0 : d ≠ 0 := fun z => cd (decide_eq_true (by rw [z]; rfl))
    obtain ⟨d', rfl⟩ : ∃ j, d = j + 1 := ⟨d - 1, by omega⟩
    have de : ((d' + 1 : Nat) : Int) - 1 = ((d' : Nat) : Int) := by omega
    have sn : ((smK ks numK : Nat) : Int) ≤ (room - 1) / 2 := by rw [smK_num ok]; omega
    have av : [V.ref f, kv, V.ref bl, V.str numK, V.int ((room - 1) / 2), V.int (((d' + 1 : Nat) : Int) - 1)] = [V.ref f, kv, V.ref bl, V.str numK, V.int ((room - 1) / 2), V.int ((d' : Nat) : Int)] := by rw [de]
    refine ⟨_, rfl, _, rfl, _, rfl, _, rfl, _, _, rfl, rfl, _, _, rfl, rfl, divw (by decide) (by decide), _, rfl, _, _, rfl, rfl, f, bl, kv, numK, (room - 1) / 2, d', m, ks, g, av, by omega, (tc.go G2).low (Nat.le_succ _), .inl rfl, m4, sn, fun v1 t1 H3 g3 iv1 wt1 => ?_⟩
    have G3 := G2.tr g3
    refine ⟨_, rfl, _, rfl, _, rfl, _, rfl, _, _, rfl, rfl, _, _, rfl, rfl, divw (by decide) (by decide), _, rfl, _, _, rfl, rfl, f, bl, kv, numK, (room - 1) / 2, d', m, ks, g, av, by omega, (tc.go G3).low (Nat.le_succ _), .inl rfl, m4, sn, fun v2 t2 H4 g4 iv2 wt2 => ?_⟩
    have G4 := G3.tr g4
    refine ⟨_, rfl, f, 5, rfl, G4.2, by decide, by decide, fun r H5 r0 r1 g5 => ?_⟩
    obtain ⟨x, x1, _⟩ := atI_of (l := TL.tl ("+-*<=" : Str)) r0 (by rw [ops_tl]; exact r1)
    refine ⟨_, _, x, rfl, rfl, by decide +kernel, x1, _, rfl, _, rfl, sz, fun t nt => ?_⟩
    have s6 : Same H5 (upd H5 t (.tup [.str "op", .str ⟨#[x]⟩, v1, v2])) := same_new nt _
    have iv1' := ((iv1.mono (G3.2.ts g4)).mono (G4.2.ts g5)).mono (ts_same s6)
    have iv2' := (iv2.mono (G4.2.ts g5)).mono (ts_same s6)
    exact q _ (.tuple [.str "op", .str ⟨#[x]⟩, t1, t2]) _ ((G4.tr g5).sm s6) (.tup upd_same (.cons (.str _) (.cons (.str _) (.cons iv1' (.cons iv2' .nil))))) (by
      have := WT.op (s := ⟨#[x]⟩) wt1 wt2
      rw [show d' + 1 + m + 2 = d' + m + 2 + 1 by omega]
      exact this)
  rcases kind_cases ok kn with ⟨ek, en, _⟩ | ⟨r, m', rfl, hrow, es, ep, hps⟩
  · exact absurd (decide_eq_true (by rw [en]; rfl)) c
  rw [ep] at ixs xl pl4
  refine ⟨_, rfl, rfl, _, rfl, ite2 (fun c2 => ?_) (fun c2 => ?_)⟩
  · -- alt
    have ea : sOfK ks k = "alt" := V.str.inj (of_decide_eq_true c2)
    have hal : r.alt = true := by
      cases c : r.alt with
      | true => rfl
      | false => rw [es, c] at ea; exact absurd ea (by decide +kernel)
    have ke : ∀ {H' : Hp}, Same H1 H' → KsE H' kv ks := fun s => KsAt.e (tc1.ka.mono (ts_same s))
    have hps4 : ∀ p ∈ r.ps, Kn ks 4 p.2 := fun p hp => (hps p hp).mono (by omega)
    refine ⟨_, rfl, b, rfl, ⟨_, SqT.of hb⟩, fun D nD => ?_⟩
    refine lc_it (walk_tup (K := K) (a := b) (xs := xs)) (fun i H' => Same H1 H' ∧ ∃ (us : List V) (sel : List (Str × Str)), H' D = some (.lst us) ∧ Ims H' us (sel.map partD) ∧ us.length ≤ i ∧ (∀ p ∈ sel, p ∈ r.ps ∧ ((smK ks p.2 : Nat) : Int) < room) ∧ ∀ j p, j < i → r.ps[j]? = some p → ((smK ks p.2 : Nat) : Int) < room → p ∈ sel)
      ⟨same_new nD _, [], [], upd_same, .nil, Nat.le_refl _, fun p hp => absurd hp List.not_mem_nil, fun j p hj => absurd hj (Nat.not_lt_zero j)⟩ (fun i H' _ hP => SqT.of (hP.1 _ _ hb)) ?_ ?_
    · rintro i y H2 H3 hi ⟨s2, us, sel, hD, ius, ul, sok, sin⟩ ⟨rfl, hy⟩
      obtain ⟨e, he, ie⟩ := ixs.of hy
      rw [List.getElem?_map] at he
      obtain ⟨p, hp, rfl⟩ := Option.map_eq_some_iff.mp he
      obtain ⟨ta, w1, w2, rfl, hta, j1, j2⟩ := (ie.mono (ts_same s2)).t2
      cases j1.strE
      cases j2.strE
      have pm : p ∈ r.ps := List.mem_of_getElem? hp
      refine ⟨rfl, ?_⟩
      refine ⟨_, rfl, _, rfl, _, _, _, _, rfl, rfl, SqT.of hta, at1, kv, p.2, ks, 4, rfl, rfl, ke s2, ok, hps4 p pm, fun H4 s4 => ⟨_, rfl, _, _, rfl, rfl, _, rfl, ?_⟩⟩
      have s24 := Same.tr s2 s4
      by_cases c : ((smK ks p.2 : Nat) : Int) < room
      · refine iteT' (decide_eq_true c) ?_
        have s5 : Same H1 (upd H4 D (.lst (us ++ [.ref ta]))) := same_upd s24 nD _
        have tsp : TS H4 (upd H4 D (.lst (us ++ [.ref ta]))) := ts_lst (s4 _ _ hD)
        refine ⟨_, rfl, us, s4 _ _ hD, small1000 (by omega), s5, us ++ [.ref ta], sel ++ [p], upd_same, ?_, by rw [List.length_append, List.length_singleton]; omega, fun p' hp' => ?_, fun j p' hj hp' hs' => ?_⟩
        · rw [List.map_append]
          exact ((ius.mono (ts_same s4)).mono tsp).snoc (.tup (tsp _ _ (s4 _ _ hta)) (.cons (.str _) (.cons (.str _) .nil)))
        · rcases List.mem_append.mp hp' with h | h
          · exact sok p' h
          · rw [List.mem_singleton.mp h]; exact ⟨pm, c⟩
        · by_cases z : j = i
          · subst z
            rw [hp] at hp'
            cases hp'
            exact List.mem_append_right _ List.mem_cons_self
          · exact List.mem_append_left _ (sin j p' (by omega) hp' hs')
      · refine iteF' (decide_eq_false c) ?_
        refine ⟨s24, us, sel, s4 _ _ hD, ius.mono (ts_same s4), by omega, sok, fun j p' hj hp' hs' => ?_⟩
        by_cases z : j = i
        · subst z
          rw [hp] at hp'
          cases hp'
          exact absurd hs' c
        · exact sin j p' (by omega) hp' hs'
    · rintro H2 ⟨s2, us, sel, hD, ius, ul, sok, sin⟩
      obtain ⟨r', p0, l0, hrow', _, ep0⟩ := alt_ne ok ea
      rw [ep] at ep0
      have sa := smK_alt ok (kn.mono m4) ea (by rw [ep, ep0])
      have p0in : p0 ∈ sel := sin 0 p0 (by rw [xl, ep0]; exact Nat.succ_pos _) (by rw [ep0]; rfl) (by omega)
      have sl0 : 0 < sel.length := List.length_pos_iff.mpr (List.ne_nil_of_mem p0in)
      have usl := ius.length
      rw [List.length_map] at usl
      have G2 : Go f H H2 := G1.sm s2
      have Df : D ≠ f := tc1.fd.ne nD
      refine ⟨_, rfl, _, rfl, _, rfl, D, _, rfl, .inl (SqL.of hD), f, _, rfl, G2.2, by omega, by omega, fun r0 H3 r00 r01 g3 => ?_⟩
      obtain ⟨p, hp, pin, _⟩ := drawn (l := sel) r00 (by omega)
      obtain ⟨pm, psm⟩ := sok p pin
      have G3 := G2.tr g3
      have ius3 : Ims H3 us (sel.map partD) := ius.mono (G2.2.ts g3)
      obtain ⟨y, hy, iy⟩ := ius3.at (i := r0.toNat) (d := partD p) (by rw [List.getElem?_map, hp]; rfl)
      obtain ⟨ta, w1, w2, rfl, hta, j1, j2⟩ := iy.t2
      cases j1.strE
      cases j2.strE
      have ay : atI us r0 = some (.ref ta) := by
        have e : r0 = ((r0.toNat : Nat) : Int) := by omega
        rw [e]
        exact atI_nat hy
      refine ⟨D, _, _, _, rfl, rfl, SqL.of (g3.at hD Df), ay, ?_⟩
      refine ⟨_, _, rfl, SqT.of hta, rfl, _, _, rfl, _, _, rfl, rfl, ?_⟩
      refine ⟨_, rfl, _, rfl, _, rfl, _, rfl, _, rfl, _, rfl, _, rfl, _, _, rfl, rfl, _, rfl, f, bl, kv, p.2, room - 1, d, m', ks, g, rfl, by omega, tc.go G3, hps p pm, by omega, by omega, fun v t2 H4 g4 iv wt => ?_⟩
      refine ⟨sz, fun t3 nt3 => ?_⟩
      have s5 : Same H4 (upd H4 t3 (.tup [.str "tag", .str k, .str p.1, v])) := same_new nt3 _
      exact q _ (.tuple [.str "tag", .str k, .str p.1, t2]) _ ((G3.tr g4).sm s5) (.tup upd_same (.cons (.str _) (.cons (.str _) (.cons (.str _) (.cons (iv.mono (ts_same s5)) .nil))))) (by
        have := WT.tag (k := k) (t := p.1) (k' := p.2) hrow hal pm wt
        rw [show d + (m' + 1) + 2 = d + m' + 2 + 1 by omega]
        exact this)
  · have na : sOfK ks k ≠ "alt" := fun z => c2 (decide_eq_true (by rw [z]))
    have hal : r.alt = false := by
      cases c : r.alt with
      | false => rfl
      | true => rw [es, c] at na; exact absurd (by decide +kernel) na
    refine ⟨_, rfl, _, rfl, _, rfl, kv, k, ks, 4, rfl, rfl, tc1.ka.e, ok, kn.mono m4, fun H2 s2 => ⟨_, _, rfl, rfl, ?_⟩⟩
    obtain ⟨more, hmore⟩ : ∃ z, z = room - ((smA ks 5 k : Nat) : Int) := ⟨_, rfl⟩
    have more0 : 0 ≤ more := by rw [hmore]; show 0 ≤ room - ((smK ks k : Nat) : Int); omega
    refine ⟨sz, fun tl ntl => ?_⟩
    have s3 : Same H1 (upd H2 tl (.lst [])) := Same.tr s2 (same_new ntl _)
    have htl : upd H2 tl (.lst []) tl = some (.lst []) := upd_same
    have tlf : tl ≠ f := (tc1.fd.same s2).ne ntl
    have tl1 : H1 tl = none := by
      cases e : H1 tl with
      | none => rfl
      | some o => rw [s2 _ _ e] at ntl; cases ntl
    generalize upd H2 tl (.lst []) = H3 at s3 htl
    have G3 : Go f H H3 := G1.sm s3
    have bf : b ≠ f := fun z => by
      obtain ⟨x, y, h1, _⟩ := tc1.fd
      rw [← z, hb] at h1
      cases h1
    have htl0 : H tl = none := by
      cases e : H tl with
      | none => rfl
      | some o => rw [s1 _ _ e] at tl1; cases tl1
    refine ⟨_, rfl, b, rfl, ⟨_, SqT.of (s3 _ _ hb)⟩, for_it (walk_tup (K := K) (a := b) (xs := xs)) (fun i σ H' => (∃ c8 c9 c10 c11 c12 c15, σ = [some (.ref f), some kv, some (.ref bl), some (.str k), some (.int room), some (.int (d : Int)), some (.str (sOfK ks k)), some (.ref b), c8, c9, c10, c11, c12, some (.int more), some (.ref tl), c15]) ∧
        Go f H H' ∧ But [f, tl] H1 H' ∧ ∃ (us : List V) (es : List PyData), H' tl = some (.lst us) ∧ Ims H' us es ∧ es.length = i ∧ ∀ (j : Nat) (p : Str × Str) (e : PyData), r.ps[j]? = some p → es[j]? = some e → WT ks (d + m' + 2) g p.2 e)
      ⟨⟨none, none, none, none, none, none, by rw [hmore]; rfl⟩, G3, .same s3, [], [], htl, .nil, rfl, fun j p e _ h => (by rw [List.getElem?_nil] at h; cases h)⟩ (fun i σ H' _ hP => SqT.of (hP.2.2.1 _ _ hb fun hm => by
        simp only [List.mem_cons, List.not_mem_nil, or_false] at hm
        rcases hm with e | e
        · exact bf e
        · rw [e, tl1] at hb; cases hb)) ?_ ?_⟩
    · rintro i y σ H4 H5 hi ⟨⟨c8, c9, c10, c11, c12, c15, rfl⟩, G4, B4, us, es', hus, ius, el, wts⟩ ⟨rfl, hy⟩
      have hb4 : H5 b = some (.tup xs) := B4 _ _ hb fun hm => by
        simp only [List.mem_cons, List.not_mem_nil, or_false] at hm
        rcases hm with e | e
        · exact bf e
        · rw [e, tl1] at hb; cases hb
      have T4 : TS H1 H5 := B4.ts fun b' hb' zs e => by
        simp only [List.mem_cons, List.not_mem_nil, or_false] at hb'
        rcases hb' with rfl | rfl
        · obtain ⟨x, y, h1, _⟩ := tc1.fd
          rw [h1] at e
          cases e
        · rw [tl1] at e; cases e
      obtain ⟨e, he, ie⟩ := ixs.of hy
      rw [List.getElem?_map] at he
      obtain ⟨p, hp, rfl⟩ := Option.map_eq_some_iff.mp he
      obtain ⟨ta, w1, w2, rfl, hta, j1, j2⟩ := (ie.mono T4).t2
      cases j1.strE
      cases j2.strE
      have pm : p ∈ r.ps := List.mem_of_getElem? hp
      have tc4 := tc.go G4
      have usl := ius.length
      have pl0 : 0 < r.ps.length := List.length_pos_iff.mpr (List.ne_nil_of_mem pm)
      refine ⟨_, _, rfl, SqT.of hta, rfl, _, _, rfl, _, _, rfl, rfl, ?_⟩
      refine ⟨_, rfl, .inl ⟨rfl, _, SqL.of hus⟩, _, rfl, _, rfl, _, rfl, _, rfl, _, rfl, _, rfl, kv, p.2, ks, 4, rfl, rfl, tc4.ka.e, ok, (hps p pm).mono (by omega), fun H6 s6 => ?_⟩
      refine ⟨_, rfl, _, rfl, b, _, rfl, .inr (SqT.of (s6 _ _ hb4)), _, _, rfl, rfl, divw (by omega) (by omega), _, _, rfl, rfl, _, rfl, ?_⟩
      have G6 := G4.sm s6
      have dv : 0 ≤ more / (xs.length : Int) := Int.ediv_nonneg more0 (by omega)
      refine ⟨f, bl, kv, p.2, _, d, m', ks, g, rfl, by omega, tc.go G6, hps p pm, by omega, ?_, fun v t2 H7 g7 iv wt => ?_⟩
      · show ((smK ks p.2 : Nat) : Int) ≤ ((smK ks p.2 : Nat) : Int) + more / (xs.length : Int)
        omega
      have hus7 : H7 tl = some (.lst us) := g7.at (s6 _ _ hus) tlf
      have G7 := G6.tr g7
      have ius7 : Ims H7 us es' := (ius.mono (ts_same s6)).mono (G6.2.ts g7)
      have tsp : TS H7 (upd H7 tl (.lst (us ++ [v]))) := ts_lst hus7
      refine ⟨tl, _, _, rfl, rfl, hus7, small1000 (by omega), ?_⟩
      refine ⟨⟨_, _, _, _, _, _, rfl⟩, ⟨fun b' o e n => ?_, G7.2.put tlf⟩, fun b' o e n => ?_, us ++ [v], es' ++ [t2], upd_same, (ius7.mono tsp).snoc (iv.mono tsp), by rw [List.length_append, el]; rfl, fun j p' e' h1 h2 => ?_⟩
      · rw [upd_ne (fun z => by rw [z, htl0] at e; cases e)]
        exact G7.1 b' o e n
      · simp only [List.mem_cons, List.not_mem_nil, or_false, not_or] at n
        rw [upd_ne n.2]
        exact g7.at (s6 _ _ (B4 b' o e (by simp only [List.mem_cons, List.not_mem_nil, or_false, not_or]; exact n))) n.1
      · by_cases z : j < es'.length
        · rw [List.getElem?_append_left z] at h2
          exact wts j p' e' h1 h2
        · rw [List.getElem?_append_right (by omega)] at h2
          obtain ⟨hl, e⟩ := List.getElem?_eq_some_iff.mp h2
          rw [List.length_singleton] at hl
          have ji : j = i := by omega
          subst ji
          rw [hp] at h1
          cases h1
          rw [← e]
          simp only [List.getElem_singleton]
          exact wt
    · rintro σ H4 ⟨⟨c8, c9, c10, c11, c12, c15, rfl⟩, G4, B4, us, es', hus, ius, el, wts⟩
      refine ⟨_, rfl, _, rfl, tl, us, rfl, .inl ⟨SqL.of hus, fun t1 nt1 => ?_⟩⟩
      have s5 : Same H4 (upd H4 t1 (.tup us)) := same_new nt1 _
      have ht1 : upd H4 t1 (.tup us) t1 = some (.tup us) := upd_same
      refine ⟨sz, fun t2 nt2 => ?_⟩
      have s6 : Same (upd H4 t1 (.tup us)) (upd (upd H4 t1 (.tup us)) t2 (.tup [.str "rec", .str k, .ref t1])) := same_new nt2 _
      refine q _ (.tuple [.str "rec", .str k, .tuple es']) _ (G4.sm (Same.tr s5 s6)) (.tup upd_same (.cons (.str _) (.cons (.str _) (.cons (.tup (s6 _ _ ht1) ((ius.mono (ts_same s5)).mono (ts_same s6))) .nil)))) ?_
      have := WT.rcd (k := k) hrow hal (by omega) wts
      rw [show d + (m' + 1) + 2 = d + m' + 2 + 1 by omega]
      exact this
end
end Sw
set_option Elab.async false
set_option linter.all false
set_option maxRecDepth 100000
set_option maxHeartbeats 4000000
/-! The law's terms. -/
namespace Sw
open PySem PySem.Spec PyProof.Rows L2
def boxKv (g : Ctx) : List (Key × V) := g.map fun q => ((Sum.inr q.1 : Key), V.str q.2)
theorem merge_get : ∀ {g : Ctx} {acc : List (Key × V)} {x t : Str}, (g.map (·.1)).Nodup → (x, t) ∈ g → valV (mergeK acc (boxKv g)) (Sum.inr x : Key) = some (.str t)
  | [], _, _, _, _, h => absurd h List.not_mem_nil
  | q :: r, acc, x, t, nd, h => by
    rw [List.map_cons, List.nodup_cons] at nd
    show valV (mergeK (putK acc (Sum.inr q.1) (.str q.2)) (boxKv r)) (Sum.inr x : Key) = _
    have keep : ∀ {r : Ctx} {acc : List (Key × V)}, x ∉ r.map (·.1) → valV (mergeK acc (boxKv r)) (Sum.inr x : Key) = valV acc (Sum.inr x) := fun {r} => by
      induction r with
      | nil => intro acc _; rfl
      | cons p r ih =>
        intro acc hx
        rw [List.map_cons, List.mem_cons, not_or] at hx
        show valV (mergeK (putK acc (Sum.inr p.1) (.str p.2)) (boxKv r)) (Sum.inr x : Key) = _
        rw [ih hx.2, valV_put, if_neg (fun z => hx.1 (Sum.inr.inj z))]
    rcases List.mem_cons.mp h with e | h
    · subst e
      rw [keep nd.1, valV_put, if_pos rfl]
    · exact merge_get nd.2 h
theorem box_refs {H : Hp} : ∀ {gvs : List V} {g : Ctx}, Ims H gvs (g.map partD) → ∃ ps : List Addr, gvs = ps.map V.ref ∧ Paired (fun p (kv : Key × V) => H p = some (.tup [kV kv.1, kv.2])) ps (boxKv g)
  | _, [], h => by
    cases h
    exact ⟨[], rfl, .nil⟩
  | _, q :: r, h => by
    obtain ⟨v, us, rfl, i, h'⟩ := Ims.tail h
    obtain ⟨ta, w1, w2, rfl, hta, j1, j2⟩ := i.t2
    cases j1.strE
    cases j2.strE
    obtain ⟨ps, rfl, pr⟩ := box_refs h'
    exact ⟨ta :: ps, rfl, .cons hta pr⟩
section
variable {P : Program} {w : World} {K : PySem.W.Frag} {mg : Str → Option Value} {base : Heap}
theorem calGTerm (T : Txt K mg) : ∀ n, C8.Cal P w K mg base (2 * n + 7) "_law_term" (spGTerm n) []
  | 0 => by
    obtain ⟨f, fd, ps, ds, F, h2⟩ := (calF (P := P) (w := w) (base := base) T.fGTerm T.glo__law_term (fun _ _ _ _ _ _ us hl => match us, hl with | [_, _, _, _, _, _], _ => rfl) (ps := pGTerm)).ex
    exact ⟨f, fd, ps, ds, (F.imp (sp' := spGTerm 0) (fun vs H Q E h => by obtain ⟨_, _, _, _, _, d, m, _, _, _, h0, _⟩ := h; omega)).mono (by omega), h2⟩
  | n + 1 => by
    have cGTerm := calGTerm T n
    have cGArms := calGArms T cGTerm
    have cGWholeTerm := calGWholeTerm T cGTerm
    have cGTake := calGTake (P := P) (w := w) (base := base) T
    have cGSortOf := calGSortOf (P := P) (w := w) (base := base) T
    have cGSmall := calGSmall (P := P) (w := w) (base := base) T 5
    have cGBoxed := calGBoxed (P := P) (w := w) (base := base) T
    refine mkCal (k := 2 * n + 8) T.fGTerm scGTerm T.glo__law_term (fun _ _ _ _ _ _ us hl => match us, hl with | [_, _, _, _, _, _], _ => rfl) (fun vs H Q E h => ?_) (fun cdv A outer s H vs Q E hr h => ?_)
    · obtain ⟨f, bl, kv, k, room, d, m, ks, g, rfl, _⟩ := h
      rfl
    obtain ⟨f, bl, kv, k, room, d, m, ks, g, rfl, hn, tc, kn, m4, hroom, q⟩ := h
    have hu := hu_of hr
    have ok := tc.ok
    have sm1 := smK_le ok k
    have hnd : n = d + m := by omega
    subst hnd
    have gl := tc.gl
    obtain ⟨gvs, hbl, igv⟩ := id tc.bx
    have gvl := igv.length
    rw [List.length_map] at gvl
    refine ⟨_, PSs.nox (pss_cons (ps_setLc (own := [("_law_x", 13), ("_law_told", 14)]) (i := 6) rfl scGTerm.nd rfl rfl (sw_true rfl rfl rfl (by decide +kernel)) (pi_list (pv 2)) (blkOk_by (N := nGTerm) (sc := defScope sGTerm) (by decide +kernel)) (fun _ _ _ _ _ => pg_tupK (K := K) (n := 2) rfl rfl (pgs_cons (pg_name (i := 13) scGTerm.nd rfl (Or.inl rfl)) (pgs_cons (pg_name (i := 14) scGTerm.nd rfl (Or.inl rfl)) pgs_nil))) (fun _ _ _ _ _ => pts_one (pt_cmpR op_eq (pv 14) (pv 3) (nomark _))) (fun _ _ _ _ _ => pv 13))
      (pss_cons (ps_set (i := 7) scGTerm.nd rfl (Or.inl rfl) (C8.pe_c cGTake hr (by omega) rfl (pa_cons (pv 0) (pa_cons pe_int pa_nil))))
      (C8.pss_cut (ps_if (PW.pt (pw_and (pt_cmpR op_gt (pe_callB (call_len_seqK (K := K) rfl) (by rfl) T.free_len PySem.boot_len (pa_cons (pv 6) pa_nil)) pe_int (nomark _)) (pw_and1 (pt_cmpR op_lt (pv 7) pe_int (nomark _))))) (pss_one (ps_ret (C8.pe_c cGBoxed hr (by omega) rfl (pa_cons (pv 0) (pa_cons (pv 6) pa_nil))))) pss_nil)
      (pss_cons (ps_set (i := 8) scGTerm.nd rfl (Or.inl rfl) (C8.pe_c cGSmall hr (by omega) rfl (pa_cons (pv 1) (pa_cons (pv 3) pa_nil))))
      (C8.pss_cut (ps_if (PW.pt (pw_and (pt_cmpR op_eq (pv 7) pe_int (nomark _)) (pw_and (pt_cmpR op_gt (pv 5) pe_int (nomark _)) (pw_and1 (pt_cmpR op_gt (pv 4) (pe_op op_add (pe_op op_mulW pe_int (pv 8)) pe_int) (nomark _)))))) (pss_cons (ps_set (i := 9) scGTerm.nd rfl (Or.inl rfl) (pe_op op_fdivW (pe_op op_sub (pe_op op_sub (pv 4) pe_int) (pe_op op_mulW pe_int (pv 8))) pe_int))
        (pss_cons (ps_set (i := 10) scGTerm.nd rfl (Or.inl rfl) (C8.pe_c cGTerm hr (by omega) rfl (pa_cons (pv 0) (pa_cons (pv 1) (pa_cons (pv 2) (pa_cons pe_str (pa_cons (pe_op op_add pe_int (pv 9)) (pa_cons (pe_op op_sub (pv 5) pe_int) pa_nil))))))))
        (pss_cons (ps_set (i := 11) scGTerm.nd rfl (Or.inl rfl) (C8.pe_c cGTerm hr (by omega) rfl (pa_cons (pv 0) (pa_cons (pv 1) (pa_cons (pv 2) (pa_cons (pv 3) (pa_cons (pe_op op_add (pv 8) (pv 9)) (pa_cons (pe_op op_sub (pv 5) pe_int) pa_nil))))))))
        (pss_one (ps_ret (pe_tup (pa_cons pe_str (pa_cons (pv 10) (pa_cons (pv 11) (pa_cons (C8.pe_c cGTerm hr (by omega) rfl (pa_cons (pv 0) (pa_cons (pv 1) (pa_cons (pv 2) (pa_cons (pv 3) (pa_cons (pe_op op_add (pv 8) (pv 9)) (pa_cons (pe_op op_sub (pv 5) pe_int) pa_nil))))))) pa_nil)))))))))) pss_nil)
      (C8.pss_cut (ps_if (PW.pt (pw_and (pt_cmpR op_eq (pv 7) pe_int (nomark _)) (pw_and1 (pt_cmpR op_gt (pv 4) pe_int (nomark _))))) (pss_cons (ps_set (i := 12) scGTerm.nd rfl (Or.inl rfl) (pe_lst pa_nil))
        (pss_cons (ps_for PassesOwn.never rfl (pi_list (pv 2)) (pg_tupK (K := K) (n := 2) rfl rfl (pgs_cons (pg_name (i := 13) scGTerm.nd rfl (Or.inr rfl)) (pgs_cons (pg_name (i := 14) scGTerm.nd rfl (Or.inl rfl)) pgs_nil)))
          (pss_cons (ps_asg (C8.pe_c cGSortOf hr (by omega) rfl (pa_cons (pv 1) (pa_cons (pv 14) pa_nil))) (pg_tupK (K := K) (n := 2) rfl rfl (pgs_cons (pg_name (i := 15) scGTerm.nd rfl (Or.inr rfl)) (pgs_cons (pg_name (i := 16) scGTerm.nd rfl (Or.inl rfl)) pgs_nil))))
            (pss_one (ps_set (i := 12) scGTerm.nd rfl (Or.inl rfl) (pe_op op_cat (pv 12) (pe_lc (own := [("_law_f", 17), ("_law_part", 19)])  rfl scGTerm.nd (pi_tup (pv 16)) (blkOk_by (N := nGTerm) (sc := defScope sGTerm) (by decide +kernel)) (fun _ _ _ _ _ => pg_tupK (K := K) (n := 2) rfl rfl (pgs_cons (pg_name (i := 17) scGTerm.nd rfl (Or.inl rfl)) (pgs_cons (pg_name (i := 19) scGTerm.nd rfl (Or.inl rfl)) pgs_nil))) (fun _ _ _ _ _ => pts_one (PW.pt (pw_and (pt_cmpR op_eq (pv 15) pe_str (nomark _)) (pw_and1 (pt_cmpR op_eq (pv 19) (pv 3) (nomark _)))))) (fun _ _ _ _ _ => pe_tup (pa_cons (pv 13) (pa_cons (pv 17) pa_nil)))))))))
        (pss_one (ps_if (pt_cmpR op_gt (pe_callB (call_len_seqK (K := K) rfl) (by rfl) T.free_len PySem.boot_len (pa_cons (pv 12) pa_nil)) pe_int (nomark _)) (pss_cons (ps_asg (pe_ix (ix_listK (K := K) rfl) (pv 12) (C8.pe_c cGTake hr (by omega) rfl (pa_cons (pv 0) (pa_cons (pe_callB (call_len_seqK (K := K) rfl) (by rfl) T.free_len PySem.boot_len (pa_cons (pv 12) pa_nil)) pa_nil))) (fun _ _ => rfl)) (pg_tupK (K := K) (n := 2) rfl rfl (pgs_cons (pg_name (i := 13) scGTerm.nd rfl (Or.inr rfl)) (pgs_cons (pg_name (i := 17) scGTerm.nd rfl (Or.inl rfl)) pgs_nil))))
          (pss_one (ps_ret (pe_tup (pa_cons pe_str (pa_cons (pe_tup (pa_cons pe_str (pa_cons (pv 13) pa_nil))) (pa_cons (pv 17) pa_nil))))))) pss_nil)))) pss_nil)
      (C8.pss_cut (ps_if (PW.pt (pw_and (pt_cmpR op_eq (pv 7) pe_int (nomark _)) (pw_and1 (pt_cmpR op_gt (pv 5) pe_int (nomark _))))) (pss_cons (ps_setLc (own := [("_law_x", 13), ("_law_told", 14)]) (i := 18) rfl scGTerm.nd rfl rfl (sw_true rfl rfl rfl (by decide +kernel)) (pi_list (pv 2)) (blkOk_by (N := nGTerm) (sc := defScope sGTerm) (by decide +kernel)) (fun _ _ _ _ _ => pg_tupK (K := K) (n := 2) rfl rfl (pgs_cons (pg_name (i := 13) scGTerm.nd rfl (Or.inl rfl)) (pgs_cons (pg_name (i := 14) scGTerm.nd rfl (Or.inl rfl)) pgs_nil))) (fun _ _ _ _ _ => pts_one (pt_cmpR op_eq (pe_ix (ix_tupK (K := K) rfl) (C8.pe_c cGSortOf hr (by omega) rfl (pa_cons (pv 1) (pa_cons (pv 14) pa_nil))) pe_int (fun _ _ => rfl)) pe_str (nomark _))) (fun _ _ _ _ _ => pv 13))
        (pss_one (ps_if (pt_cmpR op_gt (pe_callB (call_len_seqK (K := K) rfl) (by rfl) T.free_len PySem.boot_len (pa_cons (pv 18) pa_nil)) pe_int (nomark _)) (pss_cons (ps_set (i := 13) scGTerm.nd rfl (Or.inr rfl) (pe_ix (ix_listK (K := K) rfl) (pv 18) (C8.pe_c cGTake hr (by omega) rfl (pa_cons (pv 0) (pa_cons (pe_callB (call_len_seqK (K := K) rfl) (by rfl) T.free_len PySem.boot_len (pa_cons (pv 18) pa_nil)) pa_nil))) (fun _ _ => rfl)))
          (pss_cons (ps_set (i := 16) scGTerm.nd rfl (Or.inl rfl) (pe_ix (ix_tupK (K := K) rfl) (C8.pe_c cGSortOf hr (by omega) rfl (pa_cons (pv 1) (pa_cons (pe_dget hu (pe_callTy (call_dictP rfl) (by rfl) T.free_dict (by decide +kernel) (pa_cons (pv 2) pa_nil)) (pv 13) (fun _ _ => rfl)) pa_nil))) pe_int (fun _ _ => rfl)))
          (pss_one (ps_if (pt_cmpR op_ge (pe_op op_sub (pv 4) pe_int) (pe_op op_mulW (pv 8) (pe_callB (call_len_seqK (K := K) rfl) (by rfl) T.free_len PySem.boot_len (pa_cons (pv 16) pa_nil))) (nomark _)) (pss_one (ps_ret (pe_tup (pa_cons pe_str (pa_cons (pe_tup (pa_cons pe_str (pa_cons (pv 13) pa_nil))) (pa_cons (C8.pe_c cGArms hr (by omega) rfl (pa_cons (pv 0) (pa_cons (pv 1) (pa_cons (pv 2) (pa_cons (pv 16) (pa_cons (pv 3) (pa_cons (pe_op op_sub (pv 4) pe_int) (pa_cons (pv 5) pa_nil)))))))) pa_nil)))))) pss_nil)))) pss_nil))) pss_nil)
      (pss_one (ps_ret (C8.pe_c cGWholeTerm hr (by omega) rfl (pa_cons (pv 0) (pa_cons (pv 1) (pa_cons (pv 2) (pa_cons (pv 3) (pa_cons (pv 4) (pa_cons (pv 5) pa_nil)))))))))))))))), ?_⟩
    -- the boxes of the kind
    refine ⟨_, rfl, bl, rfl, ⟨_, SqL.of hbl⟩, fun D nD => ?_⟩
    have Df := tc.fd.ne nD
    refine lc_it (walk_list (K := K) (a := bl) (xs := gvs)) (fun i H' => Same H H' ∧ ∃ sel : List Str, H' D = some (.lst (sel.map V.str)) ∧ sel.length ≤ i ∧ ∀ x ∈ sel, (x, k) ∈ g)
      ⟨same_new nD _, [], upd_same, Nat.le_refl _, fun x hx => absurd hx List.not_mem_nil⟩ (fun i H' _ hP => SqL.of (hP.1 _ _ hbl)) ?_ ?_
    · rintro i y H2 H3 hi ⟨s2, sel, hD, sl, sok⟩ ⟨rfl, hy⟩
      obtain ⟨e, he, ie⟩ := igv.of hy
      rw [List.getElem?_map] at he
      obtain ⟨p, hp, rfl⟩ := Option.map_eq_some_iff.mp he
      obtain ⟨ta, w1, w2, rfl, hta, j1, j2⟩ := (ie.mono (ts_same s2)).t2
      cases j1.strE
      cases j2.strE
      have pm : p ∈ g := List.mem_of_getElem? hp
      refine ⟨_, _, rfl, SqT.of hta, rfl, _, _, rfl, _, _, rfl, rfl, rfl, ?_⟩
      refine ⟨_, rfl, _, rfl, rfl, _, rfl, ?_⟩
      by_cases c : p.2 = k
      · refine iteT' (decide_eq_true (by rw [c])) ?_
        refine ⟨_, rfl, _, hD, small1000 (by rw [List.length_map]; omega), same_upd s2 nD _, sel ++ [p.1], by rw [List.map_append]; exact upd_same, by rw [List.length_append, List.length_singleton]; omega, fun x hx => ?_⟩
        rcases List.mem_append.mp hx with hx | hx
        · exact sok x hx
        · rw [List.mem_singleton.mp hx, ← c]; exact pm
      · refine iteF' (decide_eq_false (fun z => c (V.str.inj z))) ?_
        exact ⟨s2, sel, hD, by omega, sok⟩
    rintro H1 ⟨s1, sel, hD, sl, sok⟩
    have tc1 := tc.same s1
    have G1 : Go f H H1 := Go.of tc.fd s1
    refine ⟨_, rfl, f, 6, rfl, G1.2, by decide, by decide, fun form H2 fo0 fo1 g2 => ?_⟩
    have G2 := G1.tr g2
    have hD2 := g2.at hD Df
    -- a box
    refine ⟨fun σ' H' => σ' = [some (.ref f), some kv, some (.ref bl), some (.str k), some (.int room), some (.int (d : Int)), some (.ref D), some (.int form), none, none, none, none, none, none, none, none, none, none, none, none] ∧ H' = H2, ?_, ?_⟩
    · refine ⟨_, rfl, D, _, rfl, .inl (SqL.of hD2), _, _, rfl, rfl, _, rfl, ite2 (fun c => ?_) (fun _ => iteF ⟨rfl, rfl⟩)⟩
      refine ⟨_, rfl, _, _, rfl, rfl, _, rfl, ite2 (fun _ => ?_) (fun _ => ⟨rfl, rfl⟩)⟩
      have c' := of_decide_eq_true c
      rw [List.length_map] at c'
      refine ⟨_, rfl, _, rfl, f, D, sel, rfl, G2.2, hD2, Df, fun z => by rw [z] at c'; exact absurd c' (by decide), by omega, fun v x H3 g3 hx iv => ?_⟩
      exact q v _ H3 (G2.tr g3) iv (.box (sok x hx))
    rintro σ2 H2' ⟨rfl, rfl⟩
    have tc2 := tc.go G2
    refine ⟨_, rfl, _, rfl, kv, k, ks, 4, rfl, rfl, tc2.ka.e, ok, kn.mono m4, fun H3 s3 => ?_⟩
    have G3 := G2.sm s3
    -- an if
    refine ⟨fun σ' H' => σ' = [some (.ref f), some kv, some (.ref bl), some (.str k), some (.int room), some (.int (d : Int)), some (.ref D), some (.int form), some (.int ((smK ks k : Nat) : Int)), none, none, none, none, none, none, none, none, none, none, none] ∧ H' = H3, ?_, ?_⟩
    · refine ⟨_, rfl, rfl, _, rfl, ite2 (fun _ => ?_) (fun _ => iteF ⟨rfl, rfl⟩)⟩
      refine ⟨_, rfl, _, _, rfl, rfl, _, rfl, ite2 (fun cd => ?_) (fun _ => iteF ⟨rfl, rfl⟩)⟩
      refine ⟨_, rfl, _, rfl, _, _, rfl, rfl, mulw (by decide) (by show 0 ≤ ((smK ks k : Nat) : Int) ∧ ((smK ks k : Nat) : Int) < _; omega), _, _, rfl, rfl, _, _, rfl, rfl, _, rfl, ite2 (fun cr => ?_) (fun _ => ⟨rfl, rfl⟩)⟩
      have d0 : (0 : Int) < (d : Int) := of_decide_eq_true cd
      have r0 : 2 * ((smK ks k : Nat) : Int) + 1 < room := of_decide_eq_true cr
      obtain ⟨d', rfl⟩ : ∃ j, d = j + 1 := ⟨d - 1, by omega⟩
      have de : ((d' + 1 : Nat) : Int) - 1 = ((d' : Nat) : Int) := by omega
      obtain ⟨more, hmore⟩ : ∃ z, z = (room - 2 - 2 * ((smK ks k : Nat) : Int)) / 3 := ⟨_, rfl⟩
      have more0 : 0 ≤ more := by rw [hmore]; omega
      have av : ∀ (κ : Str) (z : Int), [V.ref f, kv, V.ref bl, V.str κ, V.int (z + (room - 2 - 2 * ((smK ks k : Nat) : Int)) / 3), V.int (((d' + 1 : Nat) : Int) - 1)] = [V.ref f, kv, V.ref bl, V.str κ, V.int (z + more), V.int ((d' : Nat) : Int)] := fun κ z => by rw [de, hmore]
      have sn : ((smK ks numK : Nat) : Int) ≤ 1 + more := by rw [smK_num ok]; omega
      refine ⟨_, rfl, _, _, rfl, rfl, _, rfl, _, _, rfl, rfl, mulw (by decide) (by show 0 ≤ ((smK ks k : Nat) : Int) ∧ ((smK ks k : Nat) : Int) < _; omega), _, _, rfl, rfl, _, _, rfl, rfl, divw (by decide) (by decide), ?_⟩
      refine ⟨_, rfl, _, rfl, _, rfl, _, rfl, _, _, rfl, rfl, _, rfl, _, _, rfl, rfl, f, bl, kv, numK, 1 + more, d', m, ks, g, av numK 1, by omega, (tc.go G3).low (Nat.le_succ _), .inl rfl, m4, sn, fun v1 t1 H4 g4 iv1 wt1 => ?_⟩
      have G4 := G3.tr g4
      refine ⟨_, rfl, _, rfl, _, rfl, _, rfl, _, rfl, _, rfl, _, _, rfl, rfl, _, rfl, _, _, rfl, rfl, f, bl, kv, k, ((smK ks k : Nat) : Int) + more, d', m, ks, g, av k _, by omega, (tc.go G4).low (Nat.le_succ _), kn, m4, by omega, fun v2 t2 H5 g5 iv2 wt2 => ?_⟩
      have G5 := G4.tr g5
      refine ⟨_, rfl, _, rfl, _, rfl, _, rfl, _, rfl, _, rfl, _, rfl, _, rfl, _, _, rfl, rfl, _, rfl, _, _, rfl, rfl, f, bl, kv, k, ((smK ks k : Nat) : Int) + more, d', m, ks, g, av k _, by omega, (tc.go G5).low (Nat.le_succ _), kn, m4, by omega, fun v3 t3 H6 g6 iv3 wt3 => ⟨sz, fun t nt => ?_⟩⟩
      have s7 : Same H6 (upd H6 t (.tup [.str "if", v1, v2, v3])) := same_new nt _
      have iv1' := ((iv1.mono (G4.2.ts g5)).mono (G5.2.ts g6)).mono (ts_same s7)
      have iv2' := (iv2.mono (G5.2.ts g6)).mono (ts_same s7)
      exact q _ (.tuple [.str "if", t1, t2, t3]) _ ((G5.tr g6).sm s7) (.tup upd_same (.cons (.str _) (.cons iv1' (.cons iv2' (.cons (iv3.mono (ts_same s7)) .nil))))) (by
        rw [show d' + 1 + m + 2 = d' + m + 2 + 1 by omega]
        exact .ite wt1 wt2 wt3)
    rintro σ3 H3' ⟨rfl, rfl⟩
    refine ⟨fun σ' H' => (∃ c9 c10 c11 c12 c13 c14 c15 c16 c17 c18 c19, σ' = [some (.ref f), some kv, some (.ref bl), some (.str k), some (.int room), some (.int (d : Int)), some (.ref D), some (.int form), some (.int ((smK ks k : Nat) : Int)), c9, c10, c11, c12, c13, c14, c15, c16, c17, c18, c19]) ∧ Go f H H', ?_, ?_⟩
    · have stay : ∀ {c9 c10 c11 c12 c13 c14 c15 c16 c17 c18 c19 : Option V}, ∃ c9' c10' c11' c12' c13' c14' c15' c16' c17' c18' c19', [some (V.ref f), some kv, some (.ref bl), some (.str k), some (.int room), some (.int (d : Int)), some (.ref D), some (.int form), some (.int ((smK ks k : Nat) : Int)), c9, c10, c11, c12, c13, c14, c15, c16, c17, c18, c19] = [some (.ref f), some kv, some (.ref bl), some (.str k), some (.int room), some (.int (d : Int)), some (.ref D), some (.int form), some (.int ((smK ks k : Nat) : Int)), c9', c10', c11', c12', c13', c14', c15', c16', c17', c18', c19'] := ⟨_, _, _, _, _, _, _, _, _, _, _, rfl⟩
      refine ⟨_, rfl, rfl, _, rfl, ite2 (fun _ => ?_) (fun _ => iteF ⟨stay, G3⟩)⟩
      refine ⟨_, rfl, _, _, rfl, rfl, _, rfl, ite2 (fun _ => ?_) (fun _ => ⟨stay, G3⟩)⟩
      refine ⟨sz, fun hl nhl => ?_⟩
      have s4 : Same H3' (upd H3' hl (.lst [])) := same_new nhl _
      have hl4 : upd H3' hl (.lst []) hl = some (.lst []) := upd_same
      have hlf := G3.2.ne nhl
      generalize upd H3' hl (.lst []) = H4 at s4 hl4
      have G4 := G3.sm s4
      have bl4 := G4.at hbl tc.blf
      refine ⟨_, rfl, bl, rfl, ⟨_, SqL.of bl4⟩, for_it (walk_list (K := K) (a := bl) (xs := gvs)) (fun i σ H' => Same H4 H' ∧ ∃ (c13 c14 c15 c16 c17 c19 : Option V) (hp : Addr) (us : List V) (held : List (Str × Str)), σ = [some (.ref f), some kv, some (.ref bl), some (.str k), some (.int room), some (.int (d : Int)), some (.ref D), some (.int form), some (.int ((smK ks k : Nat) : Int)), none, none, none, some (.ref hp), c13, c14, c15, c16, c17, none, c19] ∧
          H' hp = some (.lst us) ∧ hp ≠ f ∧ Ims H' us (held.map partD) ∧ us.length ≤ 4 * i ∧ ∀ z ∈ held, ∃ k' r, (z.1, k') ∈ g ∧ row ks k' = some r ∧ r.alt = false ∧ (z.2, k) ∈ r.ps)
        ⟨same_refl, none, none, none, none, none, none, hl, [], [], rfl, hl4, hlf, .nil, Nat.zero_le _, fun z hz => absurd hz List.not_mem_nil⟩ (fun i σ H' _ hP => SqL.of (hP.1 _ _ bl4)) ?_ ?_⟩
      · rintro i y σ H5 H6 hi ⟨s5, c13, c14, c15, c16, c17, c19, hp, us, held, rfl, hhp, hpf, ius, ul, hok⟩ ⟨rfl, hy⟩
        have G5 := G4.sm s5
        obtain ⟨e, he, ie⟩ := igv.of hy
        rw [List.getElem?_map] at he
        obtain ⟨p, hpg, rfl⟩ := Option.map_eq_some_iff.mp he
        obtain ⟨ta, w1, w2, rfl, hta, j1, j2⟩ := (ie.mono (tc.fd.ts G5)).t2
        cases j1.strE
        cases j2.strE
        have pm : p ∈ g := List.mem_of_getElem? hpg
        refine ⟨_, _, rfl, SqT.of hta, rfl, _, _, rfl, _, _, rfl, rfl, ?_⟩
        refine ⟨_, rfl, _, rfl, kv, p.2, ks, rfl, (tc.go G5).ka.e, fun t b xs H7 s7 ht hb ixs => ?_⟩
        refine ⟨_, _, rfl, SqT.of ht, rfl, _, _, rfl, _, _, rfl, rfl, ?_⟩
        refine ⟨_, rfl, _, rfl, b, rfl, ⟨_, SqT.of hb⟩, fun D2 nD2 => ?_⟩
        have xl := ixs.length
        rw [List.length_map] at xl
        have pl4 := (pOfK_ok ok p.2).2
        refine lc_it (walk_tup (K := K) (a := b) (xs := xs)) (fun j H' => Same H7 H' ∧ ∃ (zs : List V) (new : List (Str × Str)), H' D2 = some (.lst zs) ∧ Ims H' zs (new.map partD) ∧ zs.length ≤ j ∧ ∀ z ∈ new, ∃ k' r, (z.1, k') ∈ g ∧ row ks k' = some r ∧ r.alt = false ∧ (z.2, k) ∈ r.ps)
          ⟨same_new nD2 _, [], [], upd_same, .nil, Nat.le_refl _, fun z hz => absurd hz List.not_mem_nil⟩ (fun j H' _ hP => SqT.of (hP.1 _ _ hb)) ?_ ?_
        · rintro j y H8 H9 hj ⟨s8, zs, new, hD2, izs, zl, nok⟩ ⟨rfl, hy⟩
          obtain ⟨e, he, ie⟩ := ixs.of hy
          rw [List.getElem?_map] at he
          obtain ⟨fp, hfp, rfl⟩ := Option.map_eq_some_iff.mp he
          obtain ⟨tb, w1, w2, rfl, htb, j1, j2⟩ := (ie.mono (ts_same s8)).t2
          cases j1.strE
          cases j2.strE
          have fpm : fp ∈ pOfK ks p.2 := List.mem_of_getElem? hfp
          refine ⟨_, _, rfl, SqT.of htb, rfl, _, _, rfl, _, _, rfl, rfl, rfl, ?_⟩
          refine ⟨_, rfl, rfl, _, rfl, ?_⟩
          by_cases c1 : sOfK ks p.2 = "rec"
          · refine iteT' (decide_eq_true (by rw [c1])) ?_
            refine ⟨_, rfl, _, rfl, rfl, _, rfl, ?_⟩
            by_cases c2 : fp.2 = k
            · refine iteT' (decide_eq_true (by rw [c2])) ?_
              refine ⟨_, rfl, _, rfl, sz, fun t2 nt2 => ?_⟩
              have s9 : Same H9 (upd H9 t2 (.tup [.str p.1, .str fp.1])) := same_new nt2 _
              have ht2 : upd H9 t2 (.tup [.str p.1, .str fp.1]) t2 = some (.tup [.str p.1, .str fp.1]) := upd_same
              have tsp : TS (upd H9 t2 (.tup [.str p.1, .str fp.1])) (upd (upd H9 t2 (.tup [.str p.1, .str fp.1])) D2 (.lst (zs ++ [.ref t2]))) := ts_lst (s9 _ _ hD2)
              refine ⟨_, s9 _ _ hD2, small1000 (by omega), same_upd (Same.tr s8 s9) nD2 _, zs ++ [.ref t2], new ++ [(p.1, fp.1)], upd_same, ?_, by rw [List.length_append, List.length_singleton]; omega, fun z hz => ?_⟩
              · rw [List.map_append]
                exact ((izs.mono (ts_same s9)).mono tsp).snoc (.tup (tsp _ _ ht2) (.cons (.str _) (.cons (.str _) .nil)))
              · rcases List.mem_append.mp hz with hz | hz
                · exact nok z hz
                · rw [List.mem_singleton.mp hz]
                  rcases kind_cases ok (tc.gk p pm) with ⟨_, en, _⟩ | ⟨r, m', _, hrow, es, ep, _⟩
                  · rw [en] at c1
                    exact absurd c1 (by decide +kernel)
                  · rw [ep] at fpm
                    refine ⟨p.2, r, pm, hrow, ?_, by rw [← c2]; exact fpm⟩
                    cases c : r.alt with
                    | false => rfl
                    | true => rw [es, c] at c1; exact absurd c1 (by decide +kernel)
            · refine iteF' (decide_eq_false (fun z => c2 (V.str.inj z))) ?_
              exact ⟨s8, zs, new, hD2, izs, by omega, nok⟩
          · refine iteF' (decide_eq_false (fun z => c1 (V.str.inj z))) ?_
            refine iteF ?_
            exact ⟨s8, zs, new, hD2, izs, by omega, nok⟩
        · rintro H8 ⟨s8, zs, new, hD2, izs, zl, nok⟩
          have s58 := Same.tr s7 s8
          refine ⟨hp, D2, _, _, rfl, rfl, s58 _ _ hhp, hD2, Nat.le_of_lt (small1000 (by omega)), fun p2 np2 => ?_⟩
          have s9 : Same H8 (upd H8 p2 (.lst (us ++ zs))) := same_new np2 _
          have s59 := Same.tr s58 s9
          refine ⟨Same.tr s5 s59, _, _, _, _, _, _, p2, us ++ zs, held ++ new, rfl, upd_same, (G5.2.same s58).ne np2, ?_, by rw [List.length_append]; omega, fun z hz => ?_⟩
          · rw [List.map_append]
            exact (ius.mono (ts_same s59)).append (izs.mono (ts_same s9))
          · rcases List.mem_append.mp hz with hz | hz
            · exact hok z hz
            · exact nok z hz
      · rintro σ H5 ⟨s5, c13, c14, c15, c16, c17, c19, hp, us, held, rfl, hhp, hpf, ius, ul, hok⟩
        have G5 := G4.sm s5
        have usl := ius.length
        rw [List.length_map] at usl
        refine ⟨_, rfl, hp, _, rfl, .inl (SqL.of hhp), _, _, rfl, rfl, _, rfl, ite2 (fun c => ?_) (fun _ => ⟨⟨_, _, _, _, _, _, _, _, _, _, _, rfl⟩, G5⟩)⟩
        have c0 : (0 : Int) < (us.length : Int) := of_decide_eq_true c
        refine ⟨_, rfl, _, rfl, _, rfl, hp, _, rfl, .inl (SqL.of hhp), f, _, rfl, G5.2, by omega, by omega, fun r0 H6 r00 r01 g6 => ?_⟩
        have G6 := G5.tr g6
        obtain ⟨z, hz, zin, _⟩ := drawn (l := held) r00 (by omega)
        have ius6 : Ims H6 us (held.map partD) := ius.mono (G5.2.ts g6)
        obtain ⟨y, hy, iy⟩ := ius6.at (i := r0.toNat) (d := partD z) (by rw [List.getElem?_map, hz]; rfl)
        obtain ⟨tz, w1, w2, rfl, htz, j1, j2⟩ := iy.t2
        cases j1.strE
        cases j2.strE
        have ay : atI us r0 = some (.ref tz) := by
          have e : r0 = ((r0.toNat : Nat) : Int) := by omega
          rw [e]
          exact atI_nat hy
        obtain ⟨k', r, zg, hrow, hal, zf⟩ := hok z zin
        refine ⟨hp, _, _, _, rfl, rfl, SqL.of (g6.at hhp hpf), ay, ?_⟩
        refine ⟨_, _, rfl, SqT.of htz, rfl, _, _, rfl, _, _, rfl, rfl, ?_⟩
        refine ⟨_, rfl, sz, fun t1 nt1 => ⟨_, rfl, sz, fun t2 nt2 => ?_⟩⟩
        have s7 : Same H6 (upd H6 t1 (.tup [.str "box", .str z.1])) := same_new nt1 _
        have s8 : Same (upd H6 t1 (.tup [.str "box", .str z.1])) (upd (upd H6 t1 (.tup [.str "box", .str z.1])) t2 (.tup [.str "get", .ref t1, .str z.2])) := same_new nt2 _
        exact q _ (.tuple [.str "get", .tuple [.str "box", .str z.1], .str z.2]) _ (G6.sm (Same.tr s7 s8)) (.tup upd_same (.cons (.str _) (.cons (.tup (s8 _ _ upd_same) (.cons (.str _) (.cons (.str _) .nil))) (.cons (.str _) .nil)))) (.get (.box zg) hrow hal zf)
    rintro σ4 H4 ⟨⟨c9, c10, c11, c12, c13, c14, c15, c16, c17, c18, c19, rfl⟩, G4⟩
    refine ⟨fun σ' H' => (∃ c9 c10 c11 c12 c13 c14 c15 c16 c17 c18 c19, σ' = [some (.ref f), some kv, some (.ref bl), some (.str k), some (.int room), some (.int (d : Int)), some (.ref D), some (.int form), some (.int ((smK ks k : Nat) : Int)), c9, c10, c11, c12, c13, c14, c15, c16, c17, c18, c19]) ∧ Go f H H', ?_, ?_⟩
    · refine ⟨_, rfl, rfl, _, rfl, ite2 (fun _ => ?_) (fun _ => iteF ⟨⟨_, _, _, _, _, _, _, _, _, _, _, rfl⟩, G4⟩)⟩
      refine ⟨_, rfl, _, _, rfl, rfl, _, rfl, ite2 (fun cd => ?_) (fun _ => ⟨⟨_, _, _, _, _, _, _, _, _, _, _, rfl⟩, G4⟩)⟩
      have d0 : (0 : Int) < (d : Int) := of_decide_eq_true cd
      obtain ⟨d', rfl⟩ : ∃ j, d = j + 1 := ⟨d - 1, by omega⟩
      have bl4 := G4.at hbl tc.blf
      refine ⟨_, rfl, bl, rfl, ⟨_, SqL.of bl4⟩, fun D2 nD2 => ?_⟩
      have D2f := G4.2.ne nD2
      refine lc_it (walk_list (K := K) (a := bl) (xs := gvs)) (fun i H' => Same H4 H' ∧ ∃ sel : List Str, H' D2 = some (.lst (sel.map V.str)) ∧ sel.length ≤ i ∧ ∀ x ∈ sel, ∃ k', (x, k') ∈ g ∧ sOfK ks k' = "alt")
        ⟨same_new nD2 _, [], upd_same, Nat.le_refl _, fun x hx => absurd hx List.not_mem_nil⟩ (fun i H' _ hP => SqL.of (hP.1 _ _ bl4)) ?_ ?_
      · rintro i y H5 H6 hi ⟨s5, tags, hD2, tl, tok⟩ ⟨rfl, hy⟩
        have G5 := G4.sm s5
        obtain ⟨e, he, ie⟩ := igv.of hy
        rw [List.getElem?_map] at he
        obtain ⟨p, hp, rfl⟩ := Option.map_eq_some_iff.mp he
        obtain ⟨ta, w1, w2, rfl, hta, j1, j2⟩ := (ie.mono (tc.fd.ts G5)).t2
        cases j1.strE
        cases j2.strE
        have pm : p ∈ g := List.mem_of_getElem? hp
        refine ⟨_, _, rfl, SqT.of hta, rfl, _, _, rfl, _, _, rfl, rfl, rfl, ?_⟩
        refine ⟨_, rfl, _, rfl, kv, p.2, ks, rfl, (tc.go G5).ka.e, fun t b xs H7 s7 ht hb ixs => ⟨_, _, _, _, rfl, rfl, SqT.of ht, at0, rfl, _, rfl, ?_⟩⟩
        have s57 := Same.tr s5 s7
        by_cases c1 : sOfK ks p.2 = "alt"
        · refine iteT' (decide_eq_true (by rw [c1])) ?_
          refine ⟨_, rfl, _, s7 _ _ hD2, small1000 (by rw [List.length_map]; omega), same_upd s57 nD2 _, tags ++ [p.1], by rw [List.map_append]; exact upd_same, by rw [List.length_append, List.length_singleton]; omega, fun x hx => ?_⟩
          rcases List.mem_append.mp hx with hx | hx
          · exact tok x hx
          · rw [List.mem_singleton.mp hx]; exact ⟨p.2, pm, c1⟩
        · refine iteF' (decide_eq_false (fun z => c1 (V.str.inj z))) ?_
          exact ⟨s57, tags, s7 _ _ hD2, by omega, tok⟩
      · rintro H5 ⟨s5, tags, hD2, tl, tok⟩
        have G5 := G4.sm s5
        refine ⟨_, rfl, D2, _, rfl, .inl (SqL.of hD2), _, _, rfl, rfl, _, rfl, ite2 (fun c => ?_) (fun _ => ⟨⟨_, _, _, _, _, _, _, _, _, _, _, rfl⟩, G5⟩)⟩
        have c0 : (0 : Int) < ((tags.map V.str).length : Int) := of_decide_eq_true c
        rw [List.length_map] at c0
        refine ⟨_, rfl, _, rfl, _, rfl, D2, _, rfl, .inl (SqL.of hD2), f, _, rfl, G5.2, by rw [List.length_map]; omega, by rw [List.length_map]; omega, fun r0 H6 r00 r01 g6 => ?_⟩
        rw [List.length_map] at r01
        have G6 := G5.tr g6
        obtain ⟨x, _, xin, ax⟩ := drawn (l := tags) r00 (by omega)
        obtain ⟨k', xg, ea⟩ := tok x xin
        refine ⟨D2, _, _, _, rfl, rfl, SqL.of (g6.at hD2 D2f), ax V.str, ?_⟩
        have bl6 := G6.at hbl tc.blf
        have igv6 := igv.mono (tc.fd.ts G6)
        obtain ⟨bps, eb, pr⟩ := box_refs igv6
        rw [eb] at bl6
        refine ⟨_, rfl, _, rfl, bl, bps, boxKv g, rfl, SqL.of bl6, Paired.mapP pr fun _ _ h => SqT.of h, fun dp ndp => ?_⟩
        have s7 : Same H6 (upd H6 dp (.dK (mergeK [] (boxKv g)))) := same_new ndp _
        have dg : DGet (upd H6 dp (.dK (mergeK [] (boxKv g)))) dp (.str x) (some (.str k')) := merge_get (acc := []) tc.gn xg ▸ DGet.k (k := Sum.inr x) upd_same
        have G7 := G6.sm s7
        refine ⟨_, rfl, dp, _, rfl, dg, kv, k', ks, rfl, (tc.go G7).ka.e, fun t b xs H8 s8 ht hb ixs => ⟨_, _, _, _, rfl, rfl, SqT.of ht, at1, ?_⟩⟩
        have G8 := G7.sm s8
        have xl := ixs.length
        rw [List.length_map] at xl
        obtain ⟨r, p0, l0, hrow, hal, ep0⟩ := alt_ne ok ea
        have ep : pOfK ks k' = r.ps := by unfold pOfK; rw [hrow]
        have pl4 := (pOfK_ok ok k').2
        refine ⟨_, rfl, _, _, rfl, rfl, _, rfl, _, rfl, b, _, rfl, .inr (SqT.of hb), _, _, rfl, rfl, mulw (by show 0 ≤ ((smK ks k : Nat) : Int) ∧ ((smK ks k : Nat) : Int) < _; omega) (by omega), _, _, rfl, rfl, _, rfl, ite2 (fun cr => ?_) (fun _ => ⟨⟨_, _, _, _, _, _, _, _, _, _, _, rfl⟩, G8⟩)⟩
        have cr' : ((smK ks k : Nat) : Int) * (xs.length : Int) ≤ room - 2 := of_decide_eq_true cr
        refine ⟨_, rfl, sz, fun t1 nt1 => ?_⟩
        have s9 : Same H8 (upd H8 t1 (.tup [.str "box", .str x])) := same_new nt1 _
        have ht1 : upd H8 t1 (.tup [.str "box", .str x]) t1 = some (.tup [.str "box", .str x]) := upd_same
        generalize upd H8 t1 (.tup [.str "box", .str x]) = H9 at s9 ht1
        have G9 := G8.sm s9
        refine ⟨_, rfl, _, rfl, _, rfl, _, rfl, _, rfl, _, rfl, _, _, rfl, rfl, _, rfl, f, bl, b, kv, k, room - 2, d', m, ks, g, pOfK ks k', xs, rfl, by omega, tc.go G9, kn, m4, s9 _ _ hb, ixs.mono (ts_same s9), by rw [ep0]; exact List.cons_ne_nil _ _, pl4, ?_, by rw [← xl]; exact cr', fun v arms H10 g10 iv cov aok => ?_⟩
        · intro p hp
          rw [ep] at hp
          exact ok.part_kd hrow hp
        · refine ⟨sz, fun t2 nt2 => ?_⟩
          have s11 : Same H10 (upd H10 t2 (.tup [.str "case", .ref t1, v])) := same_new nt2 _
          have t1f : t1 ≠ f := G8.2.ne nt1
          have ht1' := s11 _ _ (g10.at ht1 t1f)
          rw [ep] at cov aok
          have nd := (ok.pn r (row_mem hrow).1).1
          have kfe : ∀ a ∈ arms, ∀ kk, (a.1, kk) ∈ r.ps → (((r.ps.find? fun p => decide (p.1 = a.1)).map (·.2)).getD Str.empty) = kk := fun a ha kk hk => by
            obtain ⟨i, hi, ei⟩ := List.mem_iff_getElem.mp hk
            have := find_of (fun p : Str × Str => p.1) nd (i := i) (x := (a.1, kk)) (by rw [List.getElem?_eq_getElem hi, ei])
            rw [this]
            rfl
          refine q _ (.tuple [.str "case", .tuple [.str "box", .str x], .tuple (arms.map armD)]) _ ((G9.tr g10).sm s11) (.tup upd_same (.cons (.str _) (.cons (.tup ht1' (.cons (.str _) (.cons (.str _) .nil))) (.cons (iv.mono (ts_same s11)) .nil)))) ?_
          have W := WT.case (n := d' + m + 2) (k := k) (arms := arms) (fun t => (((r.ps.find? fun p => decide (p.1 = t)).map (·.2)).getD Str.empty)) (.box (n := d' + m + 1) xg) hrow hal cov (fun a ha => by
            obtain ⟨_, kk, hk, _⟩ := aok a ha
            rw [kfe a ha kk hk]
            exact hk) (fun a ha p hp => by
            obtain ⟨e, _⟩ := aok a ha
            rw [e]
            exact tc.gb p hp (d' + 1) (Nat.le_refl _)) (fun a ha => by
            obtain ⟨e, kk, hk, wt⟩ := aok a ha
            rw [kfe a ha kk hk, e]
            exact wt)
          rw [show d' + 1 + m + 2 = d' + m + 2 + 1 by omega]
          exact W
    rintro σ5 H5 ⟨⟨c9, c10, c11, c12, c13, c14, c15, c16, c17, c18, c19, rfl⟩, G5⟩
    exact ⟨_, rfl, _, rfl, _, rfl, _, rfl, _, rfl, _, rfl, f, bl, kv, k, room, d, m, ks, g, rfl, rfl, tc.go G5, kn, m4, hroom, fun v t H6 g6 iv wt => q v t H6 (G5.tr g6) iv wt⟩
end
end Sw
set_option Elab.async false
set_option linter.all false
set_option maxRecDepth 100000
set_option maxHeartbeats 4000000
/-! The law's new_term, any_kind, channels. -/
namespace Sw
open PySem PySem.Spec PyProof.Rows L2
theorem take_mem {ws : List Str} {n j : Nat} {x : Str} (h : ws[j]? = some x) (hj : j < n) : x ∈ ws.take n := by
  refine List.mem_of_getElem? (i := j) ?_
  rw [List.getElem?_take, if_pos hj]
  exact h
section
variable {P : Program} {w : World} {K : PySem.W.Frag} {mg : Str → Option Value} {base : Heap}
def spGNewTerm : Sp := fun vs H Q _ => ∃ (f bl : Addr) (kv : V) (k : Str) (ks : List KR) (g : Ctx), vs = [.ref f, kv, .ref bl, .str k] ∧ TCtx H f kv bl ks g 2 ∧ Kd ks k ∧
  ∀ (v : V) (t : PyData) (H' : Hp), Go f H H' → Im H' v t → WT ks tN g k t → Q v H'
theorem calGNewTerm (T : Txt K mg) : C8.Cal P w K mg base 22 "_law_new_term" spGNewTerm [] := by
  have cGTake := calGTake (P := P) (w := w) (base := base) T
  have cGSmall := calGSmall (P := P) (w := w) (base := base) T 5
  have cGTerm := calGTerm (P := P) (w := w) (base := base) T 7
  refine mkCal (k := 21) T.fGNewTerm scGNewTerm T.glo__law_new_term (fun _ _ _ _ _ _ us hl => match us, hl with | [_, _, _, _], _ => rfl) (fun vs H Q E h => ?_) (fun cdv A outer s H vs Q E hr h => ?_)
  · obtain ⟨f, bl, kv, k, ks, g, rfl, _⟩ := h
    rfl
  obtain ⟨f, bl, kv, k, ks, g, rfl, tc, kd, q⟩ := h
  have hu := hu_of hr
  have k4 : Kn ks 4 k := kd.mono tc.ok.len
  refine ⟨_, PSs.nox (pss_one (ps_ret (C8.pe_c cGTerm hr (by omega) rfl (pa_cons (pv 0) (pa_cons (pv 1) (pa_cons (pv 2) (pa_cons (pv 3) (pa_cons (pe_op op_add (C8.pe_c cGSmall hr (by omega) rfl (pa_cons (pv 1) (pa_cons (pv 3) pa_nil))) (C8.pe_c cGTake hr (by omega) rfl (pa_cons (pv 0) (pa_cons pe_int pa_nil)))) (pa_cons pe_int pa_nil))))))))), ?_⟩
  refine ⟨_, rfl, _, rfl, _, rfl, _, rfl, _, rfl, _, rfl, kv, k, ks, 4, rfl, rfl, tc.ka.e, tc.ok, k4, fun H1 s1 => ?_⟩
  have tc1 := tc.same s1
  refine ⟨_, rfl, f, 10, rfl, tc1.fd, by decide, by decide, fun r H2 r0 r1 g2 => ?_⟩
  have G2 : Go f H H2 := (Go.of tc.fd s1).tr g2
  refine ⟨_, _, rfl, rfl, f, bl, kv, k, _, 2, 4, ks, g, rfl, rfl, tc.go G2, k4, Nat.le_refl _, ?_, fun v t H3 g3 iv wt => q v t H3 (G2.tr g3) iv wt⟩
  show ((smK ks k : Nat) : Int) ≤ ((smK ks k : Nat) : Int) + r
  omega
def spGAnyKind : Sp := fun vs H Q _ => ∃ (f : Addr) (kv : V) (ks : List KR), vs = [.ref f, kv] ∧ Feed H f ∧ KsAt H kv ks ∧ KOk ks ∧ ∀ (k : Str) (H' : Hp), Go f H H' → Kd ks k → Q (.str k) H'
theorem calGAnyKind (T : Txt K mg) : C8.Cal P w K mg base 2 "_law_any_kind" spGAnyKind [] := by
  have cGTake := calGTake (P := P) (w := w) (base := base) T
  refine mkCal (k := 1) T.fGAnyKind scGAnyKind T.glo__law_any_kind (fun _ _ _ _ _ _ us hl => match us, hl with | [_, _], _ => rfl) (fun vs H Q E h => ?_) (fun cdv A outer s H vs Q E hr h => ?_)
  · obtain ⟨f, kv, ks, rfl, _⟩ := h
    rfl
  obtain ⟨f, kv, ks, rfl, hf, ka, ok, q⟩ := h
  have hu := hu_of hr
  obtain ⟨ka0, kvs, rfl, hka, iks⟩ := Im.tupE (show Im H kv (.tuple (ks.map KR.d)) from ka)
  have kvl := iks.length
  rw [List.length_map] at kvl
  have hk4 := ok.len
  refine ⟨_, PSs.nox (pss_one (ps_ret (pe_ix (ix_listK (K := K) rfl) (pe_op op_cat (pe_lst (pa_cons pe_str pa_nil)) (pe_lc (own := [("_law_row", 2)])  rfl scGAnyKind.nd (pi_tup (pv 1)) (blkOk_by (N := nGAnyKind) (sc := defScope sGAnyKind) (by decide +kernel)) (fun _ _ _ _ _ => pg_name (i := 2) scGAnyKind.nd rfl (Or.inl rfl)) (fun _ _ _ _ _ => pts_nil) (fun _ _ _ _ _ => pe_ix (ix_tupK (K := K) rfl) (pv 2) pe_int (fun _ _ => rfl)))) (C8.pe_c cGTake hr (by omega) rfl (pa_cons (pv 0) (pa_cons (pe_op op_add pe_int (pe_callB (call_len_seqK (K := K) rfl) (by rfl) T.free_len PySem.boot_len (pa_cons (pv 1) pa_nil))) pa_nil))) (fun _ _ => rfl)))), ?_⟩
  refine ⟨sz, fun a1 na1 => ?_⟩
  have s4 : Same H (upd H a1 (.lst [.str numK])) := same_new na1 _
  have ha1 : upd H a1 (.lst [.str numK]) a1 = some (.lst [.str numK]) := upd_same
  refine ⟨_, rfl, ka0, rfl, ⟨_, SqT.of (s4 _ _ hka)⟩, fun D nD => ?_⟩
  have nD' : upd H a1 (.lst [.str numK]) D = none := nD
  have nD3 : H D = none := by
    cases e : H D with
    | none => rfl
    | some o => rw [s4 _ _ e] at nD'; cases nD'
  have a1D : a1 ≠ D := fun z => by rw [← z, ha1] at nD'; cases nD'
  refine lc_it (walk_tup (K := K) (a := ka0) (xs := kvs)) (fun j H' => Same H H' ∧ H' a1 = some (.lst [.str numK]) ∧ H' D = some (.lst (((ks.map (·.nm)).take j).map V.str))) ⟨Same.tr s4 (same_new nD _), same_new nD _ _ _ ha1, upd_same⟩ (fun j H' _ hP => SqT.of (hP.1 _ _ hka)) ?_ ?_
  · rintro j y H4 H5 hj ⟨s5, a5, hD⟩ ⟨rfl, hy⟩
    obtain ⟨d, hd, id⟩ := iks.of hy
    rw [List.getElem?_map] at hd
    obtain ⟨r3, hr3, rfl⟩ := Option.map_eq_some_iff.mp hd
    obtain ⟨t, w1, w2, w3, rfl, ht, i1, _⟩ := (id.mono (ts_same s5)).t3
    cases i1.strE
    refine ⟨rfl, lcYes ?_⟩
    refine ⟨_, rfl, _, _, _, _, rfl, rfl, SqT.of ht, at0, _, hD, small1000 (by rw [List.length_map, List.length_take, List.length_map]; omega), same_upd s5 nD3 _, ?_, ?_⟩
    · rw [upd_ne a1D]
      exact a5
    · rw [List.take_succ, List.getElem?_map, hr3, List.map_append]
      exact upd_same
  · rintro H4 ⟨s5, a5, hD⟩
    rw [List.take_of_length_le (by rw [List.length_map]; omega)] at hD
    refine ⟨a1, D, _, _, rfl, rfl, a5, hD, Nat.le_of_lt (small1000 (by rw [List.length_map, List.length_map, List.length_singleton]; omega)), fun p np => ?_⟩
    have s6 : Same H4 (upd H4 p (.lst ([.str numK] ++ (ks.map (·.nm)).map V.str))) := same_new np _
    have hp6 : upd H4 p (.lst ([.str numK] ++ (ks.map (·.nm)).map V.str)) p = some (.lst ((numK :: ks.map (·.nm)).map V.str)) := upd_same
    have s36 := Same.tr s5 s6
    generalize upd H4 p (.lst ([.str numK] ++ (ks.map (·.nm)).map V.str)) = H6 at s6 hp6 s36
    have F6 := hf.same s36
    have pf : p ≠ f := (hf.same s5).ne np
    refine ⟨_, rfl, _, rfl, ka0, _, rfl, .inr (SqT.of (s36 _ _ hka)), _, _, rfl, rfl, f, _, rfl, F6, by omega, by omega, fun r4 H7 r40 r41 g7 => ?_⟩
    obtain ⟨k, hk, _, ak⟩ := drawn (l := numK :: ks.map (·.nm)) r40 (by rw [List.length_cons, List.length_map]; omega)
    exact ⟨p, _, _, _, rfl, rfl, SqL.of (g7.at hp6 pf), ak V.str, q k H7 ((Go.of hf s36).tr g7) (kd_at hk)⟩
def spGChannels : Sp := fun vs H Q _ => ∃ (f nl : Addr) (kv : V) (n : Nat) (ks : List KR) (ws : List Str), vs = [.ref f, kv, .ref nl, .int (n : Int)] ∧ Feed H f ∧ KsAt H kv ks ∧ KOk ks ∧ H nl = some (.lst (ws.map V.str)) ∧ nl ≠ f ∧ NmOk ws ∧ 1 ≤ n ∧ n ≤ 4 ∧
  ∀ (v : V) (cs : List Ch) (H' : Hp), Go f H H' → Im H' v (.tuple (cs.map Ch.d)) → cs.map (·.nm) = (ws.drop 12).take cs.length → cs.length ≤ 5 → (∀ c ∈ cs, Kd ks c.kd ∧ c.fr ∈ ws.take n ∧ c.to ∈ ws.take n) → Q v H'
theorem calGChannels (T : Txt K mg) : C8.Cal P w K mg base 3 "_law_channels" spGChannels [] := by
  have cGTake := calGTake (P := P) (w := w) (base := base) T
  have cGAnyKind := calGAnyKind (P := P) (w := w) (base := base) T
  refine mkCal (k := 2) T.fGChannels scGChannels T.glo__law_channels (fun _ _ _ _ _ _ us hl => match us, hl with | [_, _, _, _], _ => rfl) (fun vs H Q E h => ?_) (fun cdv A outer s H vs Q E hr h => ?_)
  · obtain ⟨f, nl, kv, n, ks, ws, rfl, _⟩ := h
    rfl
  obtain ⟨f, nl, kv, n, ks, ws, rfl, hf, ka, ok, hnl, nlf, nm, n1, n4, q⟩ := h
  have hu := hu_of hr
  have wl := nm.len
  refine ⟨_, PSs.nox (pss_cons (ps_set (i := 4) scGChannels.nd rfl (Or.inl rfl) (pe_lst pa_nil))
      (pss_cons (ps_set (i := 5) scGChannels.nd rfl (Or.inl rfl) (C8.pe_c cGTake hr (by omega) rfl (pa_cons (pv 0) (pa_cons (pv 3) pa_nil))))
      (pss_cons (ps_for PassesOwn.never rfl (pi_range1 rfl T.free_range (pa_cons (pe_callB (call_max2 rfl) (by rfl) T.free_max (by decide +kernel) (pa_cons (C8.pe_c cGTake hr (by omega) rfl (pa_cons (pv 0) (pa_cons pe_int pa_nil))) (pa_cons (pe_op op_mulW (pv 3) (pe_callTy call_int1 (by rfl) T.free_int (by decide +kernel) (pa_cons (pe_cmpR op_gt (C8.pe_c cGTake hr (by omega) rfl (pa_cons (pv 0) (pa_cons pe_int pa_nil))) pe_int (nomark _)) pa_nil))) pa_nil))) pa_nil)) (pg_name (i := 6) scGChannels.nd rfl (Or.inl rfl))
        (pss_cons (ps_set (i := 7) scGChannels.nd rfl (Or.inl rfl) (pe_tup (pa_cons (pe_ix (ix_listK (K := K) rfl) (pv 2) (C8.pe_c cGTake hr (by omega) rfl (pa_cons (pv 0) (pa_cons (pv 3) pa_nil))) (fun _ _ => rfl)) (pa_cons (pe_ix (ix_listK (K := K) rfl) (pv 2) (C8.pe_c cGTake hr (by omega) rfl (pa_cons (pv 0) (pa_cons (pv 3) pa_nil))) (fun _ _ => rfl)) pa_nil))))
          (C8.pss_cut (ps_if (PW.pt (pw_and (pt_cmpR op_lt (pv 6) (pv 3) (nomark _)) (pw_and1 (pt_cmpR op_gt (C8.pe_c cGTake hr (by omega) rfl (pa_cons (pv 0) (pa_cons pe_int pa_nil))) pe_int (nomark _))))) (pss_one (ps_set (i := 7) scGChannels.nd rfl (Or.inl rfl) (pe_tup (pa_cons (pe_ix (ix_tupK (K := K) rfl) (pv 7) pe_int (fun _ _ => rfl)) (pa_cons (pe_ix (ix_listK (K := K) rfl) (pv 2) (pe_op op_mod (pe_op op_add (pv 5) (pv 6)) (pv 3)) (fun _ _ => rfl)) pa_nil))))) pss_nil)
          (pss_one (ps_expr (pe_bm PySem.F.plainAttrs_list PySem.F.slot_list_append PySem.F.type_list_append mt_append (pv 4) (pa_cons (pe_tup (pa_cons (pe_ix (ix_listK (K := K) rfl) (pv 2) (pe_op op_add pe_int (pv 6)) (fun _ _ => rfl)) (pa_cons (pe_ix (ix_tupK (K := K) rfl) (pv 7) pe_int (fun _ _ => rfl)) (pa_cons (pe_ix (ix_tupK (K := K) rfl) (pv 7) pe_int (fun _ _ => rfl)) (pa_cons (C8.pe_c cGAnyKind hr (by omega) rfl (pa_cons (pv 0) (pa_cons (pv 1) pa_nil))) pa_nil))))) pa_nil)))))))
      (pss_one (ps_ret (pe_callTy call_tuple_of (by rfl) T.free_tuple (by decide +kernel) (pa_cons (pv 4) pa_nil))))))), ?_⟩
  refine ⟨sz, fun cl ncl => ?_⟩
  have clf := hf.ne ncl
  have s0 : Same H (upd H cl (.lst [])) := same_new ncl _
  have hf0 := hf.same s0
  have cl0 : upd H cl (.lst []) cl = some (.lst []) := upd_same
  generalize upd H cl (.lst []) = H0 at s0 hf0 cl0
  refine ⟨_, rfl, _, rfl, f, _, rfl, hf0, by omega, by omega, fun turn H1 t0 t1 g1 => ?_⟩
  refine ⟨_, rfl, f, 6, rfl, g1.2, by decide, by decide, fun r1 H2 r10 r11 g2 => ?_⟩
  refine ⟨_, rfl, _, rfl, f, 5, rfl, g2.2, by decide, by decide, fun r2 H3 r20 r21 g3 => ⟨_, _, rfl, rfl, .inr ⟨_, rfl, _, _, rfl, rfl, ?_⟩⟩⟩
  have i01 : ∀ b : Bool, (0 : Int) ≤ (if b = true then 1 else 0) ∧ (if b = true then (1 : Int) else 0) ≤ 1 := fun b => by cases b <;> decide
  have G3 : Go f H H3 := (Go.of hf s0).tr ((g1.tr g2).tr g3)
  have cl3 := ((g1.tr g2).tr g3).at cl0 clf
  have i1 := i01 (decide (0 < r2))
  have mb : 0 ≤ (n : Int) * (if (decide (0 < r2)) = true then 1 else 0) ∧ (n : Int) * (if (decide (0 < r2)) = true then 1 else 0) ≤ 4 := by
    by_cases c : (decide (0 < r2)) = true
    · rw [if_pos c]; omega
    · rw [if_neg c]; omega
  have J1 : 0 ≤ (if (n : Int) * (if (decide (0 < r2)) = true then 1 else 0) > r1 then (n : Int) * (if (decide (0 < r2)) = true then 1 else 0) else r1) ∧ (if (n : Int) * (if (decide (0 < r2)) = true then 1 else 0) > r1 then (n : Int) * (if (decide (0 < r2)) = true then 1 else 0) else r1) ≤ 5 := by
    by_cases c : (n : Int) * (if (decide (0 < r2)) = true then 1 else 0) > r1
    · rw [if_pos c]; exact ⟨mb.1, Int.le_trans mb.2 (by decide)⟩
    · rw [if_neg c]; exact ⟨r10, by omega⟩
  have hn5 := Int.toNat_le.mpr J1.2
  -- the names that may be drawn
  have nm_at : ∀ {r : Int}, 0 ≤ r → r < (n : Int) → ∃ x, x ∈ ws.take n ∧ atI (ws.map V.str) r = some (.str x) := fun {r} h0 h1 => by
    obtain ⟨x, hx⟩ : ∃ x, ws[r.toNat]? = some x := ⟨_, List.getElem?_eq_getElem (by omega)⟩
    refine ⟨x, take_mem hx (by omega), ?_⟩
    have e : r = ((r.toNat : Nat) : Int) := by omega
    rw [e]
    exact atI_nat (by rw [List.getElem?_map, hx]; rfl)
  refine ⟨mulw (by omega) ⟨i1.1, Int.lt_of_le_of_lt i1.2 (by decide)⟩, _, _, rfl, _, rfl, Int.le_trans (by decide) J1.1, Int.lt_of_le_of_lt J1.2 (by decide), for_it walk_range (fun i σ H' => (∃ c6 c7, σ = [some (.ref f), some kv, some (.ref nl), some (.int (n : Int)), some (.ref cl), some (.int turn), c6, c7]) ∧
      Go f H H' ∧ ∃ (xs : List V) (cs : List Ch), H' cl = some (.lst xs) ∧ Ims H' xs (cs.map Ch.d) ∧ cs.map (·.nm) = (ws.drop 12).take i ∧ cs.length = i ∧ ∀ c ∈ cs, Kd ks c.kd ∧ c.fr ∈ ws.take n ∧ c.to ∈ ws.take n)
      ⟨⟨_, _, rfl⟩, G3, [], [], cl3, .nil, rfl, rfl, fun c hc => absurd hc List.not_mem_nil⟩ (fun _ _ _ _ _ => trivial) ?_ ?_⟩
  · rintro i y σ H4 H5 hi ⟨⟨c6, c7, rfl⟩, G4, xs, cs, hcl, ixs, cnm, cln, cok⟩ ⟨rfl, rfl⟩
    have hi5 : i < 5 := Nat.lt_of_lt_of_le hi hn5
    have nl4 := G4.at hnl nlf
    have xl := ixs.length
    rw [List.length_map] at xl
    refine ⟨_, rfl, _, rfl, _, rfl, f, _, rfl, G4.2, by omega, by omega, fun ra H6 ra0 ra1 g6 => ?_⟩
    obtain ⟨xa, xam, xat⟩ := nm_at ra0 ra1
    refine ⟨_, _, _, _, rfl, rfl, SqL.of (g6.at nl4 nlf), xat, ?_⟩
    refine ⟨_, rfl, _, rfl, _, rfl, f, _, rfl, g6.2, by omega, by omega, fun rb H7 rb0 rb1 g7 => ?_⟩
    obtain ⟨xb, xbm, xbt⟩ := nm_at rb0 rb1
    have g67 := g6.tr g7
    refine ⟨_, _, _, _, rfl, rfl, SqL.of (g67.at nl4 nlf), xbt, sz, fun t nt => ?_⟩
    have s8 : Same H7 (upd H7 t (.tup [.str xa, .str xb])) := same_new nt _
    have ht8 : upd H7 t (.tup [.str xa, .str xb]) t = some (.tup [.str xa, .str xb]) := upd_same
    generalize upd H7 t (.tup [.str xa, .str xb]) = H8 at s8 ht8
    have g8 : Go f H5 H8 := g67.sm s8
    refine ⟨fun σ' H' => Go f H5 H' ∧ ∃ (t : Addr) (xa xb : Str), σ' = [some (.ref f), some kv, some (.ref nl), some (.int (n : Int)), some (.ref cl), some (.int turn), some (.int (0 + (i : Int))), some (.ref t)] ∧ H' t = some (.tup [.str xa, .str xb]) ∧ xa ∈ ws.take n ∧ xb ∈ ws.take n, ?_, ?_⟩
    · refine ⟨_, rfl, _, rfl, _, _, rfl, rfl, _, rfl, ite2 (fun ck => ?_) (fun _ => iteF ⟨g8, t, xa, xb, rfl, ht8, xam, xbm⟩)⟩
      refine ⟨_, rfl, f, 6, rfl, g8.2, by decide, by decide, fun rc H9 rc0 rc1 g9 => ⟨_, _, rfl, rfl, _, rfl, ?_⟩⟩
      have tf : t ≠ f := g67.2.ne nt
      have ht9 := g9.at ht8 tf
      have g59 := g8.tr g9
      refine ite2 (fun _ => ?_) (fun _ => ⟨g59, t, xa, xb, rfl, ht9, xam, xbm⟩)
      have m0 : 0 ≤ (turn + (0 + (i : Int))) % (n : Int) ∧ (turn + (0 + (i : Int))) % (n : Int) < (n : Int) := ⟨Int.emod_nonneg _ (by omega), Int.emod_lt_of_pos _ (by omega)⟩
      obtain ⟨xc, xcm, xct⟩ := nm_at m0.1 m0.2
      refine ⟨_, rfl, _, _, _, _, rfl, rfl, SqT.of ht9, at0, _, rfl, _, rfl, _, rfl, _, _, rfl, rfl, _, rfl, _, _, rfl, rfl, (by show (0 : Int) < (n : Int); omega), _, _, _, _, rfl, rfl, SqL.of (g59.at nl4 nlf), xct, sz, fun t2 nt2 => ?_⟩
      exact ⟨g59.sm (same_new nt2 _), t2, xa, xc, rfl, upd_same, xam, xcm⟩
    rintro σ9 H9 ⟨g9, t, xa, xb, rfl, ht9, xam, xbm⟩
    have zi : (12 : Int) + (0 + (i : Int)) = ((12 + i : Nat) : Int) := by omega
    obtain ⟨xn, hxn⟩ : ∃ x, ws[12 + i]? = some x := ⟨_, List.getElem?_eq_getElem (by omega)⟩
    have axn : atI (ws.map V.str) (12 + (0 + (i : Int))) = some (.str xn) := by rw [zi]; exact atI_nat (by rw [List.getElem?_map, hxn]; rfl)
    have cl9 : H9 cl = some (.lst xs) := g9.at hcl clf
    have G9 : Go f H H9 := G4.tr g9
    have ka9 : KsAt H9 kv ks := ka.mono (hf.ts G9)
    refine ⟨_, rfl, .inl ⟨rfl, _, SqL.of cl9⟩, _, rfl, _, rfl, _, _, rfl, rfl, _, _, _, _, rfl, rfl, SqL.of (g9.at nl4 nlf), axn, _, rfl, _, _, _, _, rfl, rfl, SqT.of ht9, at0, _, rfl, _, _, _, _, rfl, rfl, SqT.of ht9, at1, _, rfl, _, rfl, f, kv, ks, rfl, G9.2, ka9, ok, fun kd H10 g10 hkd => ⟨sz, fun t3 nt3 => ?_⟩⟩
    have G10 := G9.tr g10
    have s11 : Same H10 (upd H10 t3 (.tup [.str xn, .str xa, .str xb, .str kd])) := same_new nt3 _
    have ht3 : upd H10 t3 (.tup [.str xn, .str xa, .str xb, .str kd]) t3 = some (.tup [.str xn, .str xa, .str xb, .str kd]) := upd_same
    have cl10 := s11 _ _ (g10.at cl9 clf)
    have ixs10 : Ims H10 xs (cs.map Ch.d) := ixs.mono (G4.2.ts (g9.tr g10))
    have ixs11 := ixs10.mono (ts_same s11)
    have G11 := G10.sm s11
    refine ⟨cl, _, _, rfl, rfl, cl10, small1000 (by omega), ?_⟩
    generalize upd H10 t3 (.tup [.str xn, .str xa, .str xb, .str kd]) = H11 at s11 ht3 cl10 ixs11 G11
    have tsp : TS H11 (upd H11 cl (.lst (xs ++ [.ref t3]))) := ts_lst cl10
    refine ⟨⟨_, _, rfl⟩, ⟨fun b' o e n => ?_, G11.2.put clf⟩, xs ++ [.ref t3], cs ++ [⟨xn, xa, xb, kd⟩], upd_same, ?_, ?_, by rw [List.length_append, cln]; rfl, fun c hc => ?_⟩
    · rw [upd_ne (fun z => by rw [z, ncl] at e; cases e)]
      exact G11.1 b' o e n
    · rw [List.map_append]
      exact (ixs11.mono tsp).snoc (.tup (tsp _ _ ht3) (.cons (.str _) (.cons (.str _) (.cons (.str _) (.cons (.str _) .nil)))))
    · rw [List.map_append, cnm, List.take_succ, List.getElem?_drop, hxn]
      rfl
    · rcases List.mem_append.mp hc with hc | hc
      · exact cok c hc
      · rw [List.mem_singleton.mp hc]
        exact ⟨hkd, xam, xbm⟩
  · rintro σ H4 ⟨⟨c6, c7, rfl⟩, G4, xs, cs, hcl, ixs, cnm, cln, cok⟩
    refine ⟨_, rfl, cl, xs, rfl, .inl ⟨SqL.of hcl, fun t nt => ?_⟩⟩
    have s5 : Same H4 (upd H4 t (.tup xs)) := same_new nt _
    exact q _ cs _ (G4.sm s5) (.tup upd_same (ixs.mono (ts_same s5))) (by rw [cnm, cln]) (by rw [cln]; exact hn5) cok
end
end Sw
set_option Elab.async false
set_option linter.all false
set_option maxRecDepth 100000
set_option maxHeartbeats 4000000
/-! The law's into, boxes. -/
namespace Sw
open PySem PySem.Spec PyProof.Rows L2
section
variable {P : Program} {w : World} {K : PySem.W.Frag} {mg : Str → Option Value} {base : Heap}
def spGInto : Sp := fun vs H Q _ => ∃ (chv bxv : V) (h : Str) (cs : List Ch) (bx : List (Str × Str)), vs = [chv, .str h, bxv] ∧ Im H chv (.tuple (cs.map Ch.d)) ∧ cs.length ≤ 5 ∧ Im H bxv (.tuple (bx.map partD)) ∧ bx.length ≤ 5 ∧
  ∀ (l : Addr) (us : List V) (ps : List (Str × Str)) (H' : Hp), Same H H' → H l = none → H' l = some (.lst us) → Ims H' us (ps.map partD) → (∀ z ∈ ps, ∃ c ∈ cs, c.nm = z.1 ∧ c.to = h ∧ (z.2, c.kd) ∈ bx) → ps.length ≤ 25 → Q (.ref l) H'
theorem calGInto (T : Txt K mg) : C8.Cal P w K mg base 1 "_law_into" spGInto [] := by
  refine mkCal (k := 0) T.fGInto scGInto T.glo__law_into (fun _ _ _ _ _ _ us hl => match us, hl with | [_, _, _], _ => rfl) (fun vs H Q E h => ?_) (fun cdv A outer s H vs Q E hr h => ?_)
  · obtain ⟨chv, bxv, h, cs, bx, rfl, _⟩ := h
    rfl
  obtain ⟨chv, bxv, h, cs, bx, rfl, ic, cl5, ib, bl5, q⟩ := h
  have hu := hu_of hr
  obtain ⟨ca, zs, rfl, hca, izs⟩ := ic.tupE
  obtain ⟨ba, bs, rfl, hba, ibs⟩ := ib.tupE
  have zl := izs.length
  rw [List.length_map] at zl
  have bl := ibs.length
  rw [List.length_map] at bl
  refine ⟨_, PSs.nox (pss_cons (ps_set (i := 3) scGInto.nd rfl (Or.inl rfl) (pe_lst pa_nil))
      (pss_cons (ps_for PassesOwn.never rfl (pi_tup (pv 0)) (pg_tupK (K := K) (n := 4) rfl rfl (pgs_cons (pg_name (i := 4) scGInto.nd rfl (Or.inr rfl)) (pgs_cons (pg_name (i := 5) scGInto.nd rfl (Or.inl rfl)) (pgs_cons (pg_name (i := 6) scGInto.nd rfl (Or.inr rfl)) (pgs_cons (pg_name (i := 7) scGInto.nd rfl (Or.inr rfl)) pgs_nil)))))
        (pss_one (ps_set (i := 3) scGInto.nd rfl (Or.inl rfl) (pe_op op_cat (pv 3) (pe_lc (own := [("_law_x", 8), ("_law_told", 9)])  rfl scGInto.nd (pi_tup (pv 2)) (blkOk_by (N := nGInto) (sc := defScope sGInto) (by decide +kernel)) (fun _ _ _ _ _ => pg_tupK (K := K) (n := 2) rfl rfl (pgs_cons (pg_name (i := 8) scGInto.nd rfl (Or.inl rfl)) (pgs_cons (pg_name (i := 9) scGInto.nd rfl (Or.inl rfl)) pgs_nil))) (fun _ _ _ _ _ => pts_one (PW.pt (pw_and (pt_cmpR op_eq (pv 6) (pv 1) (nomark _)) (pw_and1 (pt_cmpR op_eq (pv 9) (pv 7) (nomark _)))))) (fun _ _ _ _ _ => pe_tup (pa_cons (pv 4) (pa_cons (pv 8) pa_nil))))))))
      (pss_one (ps_ret (pv 3))))), ?_⟩
  refine ⟨sz, fun l0 nl0 => ?_⟩
  have s0 : Same H (upd H l0 (.lst [])) := same_new nl0 _
  have h0 : upd H l0 (.lst []) l0 = some (.lst []) := upd_same
  generalize upd H l0 (.lst []) = H0 at s0 h0
  refine ⟨_, rfl, ca, rfl, ⟨_, SqT.of (s0 _ _ hca)⟩, for_it (walk_tup (K := K) (a := ca) (xs := zs)) (fun i σ H' => Same H H' ∧ ∃ (c4 c5 c6 c7 : Option V) (hp : Addr) (us : List V) (ps : List (Str × Str)), σ = [some (.ref ca), some (.str h), some (.ref ba), some (.ref hp), c4, c5, c6, c7, none, none] ∧
        H hp = none ∧ H' hp = some (.lst us) ∧ Ims H' us (ps.map partD) ∧ us.length ≤ 5 * i ∧ ∀ z ∈ ps, ∃ c ∈ cs, c.nm = z.1 ∧ c.to = h ∧ (z.2, c.kd) ∈ bx)
    ⟨s0, none, none, none, none, l0, [], [], rfl, nl0, h0, .nil, Nat.zero_le _, fun z hz => absurd hz List.not_mem_nil⟩ (fun i σ H' _ hP => SqT.of (hP.1 _ _ hca)) ?_ ?_⟩
  · rintro i y σ H5 H6 hi ⟨s5, c4, c5, c6, c7, hp, us, ps, rfl, fhp, hhp, ius, ul, hok⟩ ⟨rfl, hy⟩
    obtain ⟨e, he, ie⟩ := izs.of hy
    rw [List.getElem?_map] at he
    obtain ⟨c, hc, rfl⟩ := Option.map_eq_some_iff.mp he
    have cm : c ∈ cs := List.mem_of_getElem? hc
    obtain ⟨ta, w1, w2, w3, w4, rfl, hta, g1, g2, g3, g4⟩ := (ie.mono (ts_same s5)).t4
    cases g1.strE
    cases g2.strE
    cases g3.strE
    cases g4.strE
    refine ⟨_, _, rfl, SqT.of hta, rfl, _, _, rfl, _, _, rfl, _, _, rfl, _, _, rfl, rfl, ?_⟩
    refine ⟨_, rfl, _, rfl, ba, rfl, ⟨_, SqT.of (s5 _ _ hba)⟩, fun D2 nD2 => ?_⟩
    refine lc_it (walk_tup (K := K) (a := ba) (xs := bs)) (fun j H' => Same H6 H' ∧ ∃ (zs : List V) (new : List (Str × Str)), H' D2 = some (.lst zs) ∧ Ims H' zs (new.map partD) ∧ zs.length ≤ j ∧ ∀ z ∈ new, ∃ c ∈ cs, c.nm = z.1 ∧ c.to = h ∧ (z.2, c.kd) ∈ bx)
      ⟨same_new nD2 _, [], [], upd_same, .nil, Nat.le_refl _, fun z hz => absurd hz List.not_mem_nil⟩ (fun j H' _ hP => SqT.of (hP.1 _ _ (s5 _ _ hba))) ?_ ?_
    · rintro j y H8 H9 hj ⟨s8, zs, new, hD2, izs, zl, nok⟩ ⟨rfl, hy⟩
      obtain ⟨e, he, ie⟩ := ibs.of hy
      rw [List.getElem?_map] at he
      obtain ⟨p, hpp, rfl⟩ := Option.map_eq_some_iff.mp he
      obtain ⟨tb, w1, w2, rfl, htb, j1, j2⟩ := (ie.mono (ts_same (Same.tr s5 s8))).t2
      cases j1.strE
      cases j2.strE
      have pm : p ∈ bx := List.mem_of_getElem? hpp
      refine ⟨_, _, rfl, SqT.of htb, rfl, _, _, rfl, _, _, rfl, rfl, rfl, ?_⟩
      refine ⟨_, rfl, _, rfl, rfl, _, rfl, ?_⟩
      by_cases c1 : c.to = h
      · refine iteT' (decide_eq_true (by rw [c1])) ?_
        refine ⟨_, rfl, _, rfl, rfl, _, rfl, ?_⟩
        by_cases c2 : p.2 = c.kd
        · refine iteT' (decide_eq_true (by rw [c2])) ?_
          refine ⟨_, rfl, _, rfl, sz, fun t2 nt2 => ?_⟩
          have s9 : Same H9 (upd H9 t2 (.tup [.str c.nm, .str p.1])) := same_new nt2 _
          have ht2 : upd H9 t2 (.tup [.str c.nm, .str p.1]) t2 = some (.tup [.str c.nm, .str p.1]) := upd_same
          have tsp : TS (upd H9 t2 (.tup [.str c.nm, .str p.1])) (upd (upd H9 t2 (.tup [.str c.nm, .str p.1])) D2 (.lst (zs ++ [.ref t2]))) := ts_lst (s9 _ _ hD2)
          refine ⟨_, s9 _ _ hD2, small1000 (by omega), same_upd (Same.tr s8 s9) nD2 _, zs ++ [.ref t2], new ++ [(c.nm, p.1)], upd_same, ?_, by rw [List.length_append, List.length_singleton]; omega, fun z hz => ?_⟩
          · rw [List.map_append]
            exact ((izs.mono (ts_same s9)).mono tsp).snoc (.tup (tsp _ _ ht2) (.cons (.str _) (.cons (.str _) .nil)))
          · rcases List.mem_append.mp hz with hz | hz
            · exact nok z hz
            · rw [List.mem_singleton.mp hz]
              exact ⟨c, cm, rfl, c1, by rw [← c2]; exact pm⟩
        · refine iteF' (decide_eq_false (fun z => c2 (V.str.inj z))) ?_
          exact ⟨s8, zs, new, hD2, izs, by omega, nok⟩
      · refine iteF' (decide_eq_false (fun z => c1 (V.str.inj z))) ?_
        refine iteF ?_
        exact ⟨s8, zs, new, hD2, izs, by omega, nok⟩
    · rintro H8 ⟨s8, zs', new, hD2, izs', zl', nok⟩
      refine ⟨hp, D2, _, _, rfl, rfl, s8 _ _ hhp, hD2, Nat.le_of_lt (small1000 (by omega)), fun p2 np2 => ?_⟩
      have s9 : Same H8 (upd H8 p2 (.lst (us ++ zs'))) := same_new np2 _
      have s59 := Same.tr s8 s9
      have fp2 : H p2 = none := by
        cases e : H p2 with
        | none => rfl
        | some o => rw [s8 _ _ (s5 _ _ e)] at np2; cases np2
      refine ⟨Same.tr s5 s59, _, _, _, _, p2, us ++ zs', ps ++ new, rfl, fp2, upd_same, ?_, by rw [List.length_append]; omega, fun z hz => ?_⟩
      · rw [List.map_append]
        exact (ius.mono (ts_same s59)).append (izs'.mono (ts_same s9))
      · rcases List.mem_append.mp hz with hz | hz
        · exact hok z hz
        · exact nok z hz
  · rintro σ H5 ⟨s5, c4, c5, c6, c7, hp, us, ps, rfl, fhp, hhp, ius, ul, hok⟩
    have usl := ius.length
    rw [List.length_map] at usl
    exact ⟨_, rfl, q hp us ps H5 s5 fhp hhp ius hok (by omega)⟩
def spGBoxes : Sp := fun vs H Q _ => ∃ (f nl : Addr) (kv chv : V) (h : Str) (ks : List KR) (cs : List Ch) (ws : List Str), vs = [.ref f, kv, chv, .str h, .ref nl] ∧ Feed H f ∧ KsAt H kv ks ∧ KOk ks ∧ Im H chv (.tuple (cs.map Ch.d)) ∧ cs.length ≤ 5 ∧ (∀ c ∈ cs, Kd ks c.kd) ∧ H nl = some (.lst (ws.map V.str)) ∧ nl ≠ f ∧ NmOk ws ∧
  ∀ (v : V) (bx : List (Str × Str)) (H' : Hp), Go f H H' → Im H' v (.tuple (bx.map partD)) → (bx.map (·.1)).Nodup → (∀ p ∈ bx, Kd ks p.2 ∧ p.1 ∈ ws) → bx.length ≤ 5 → Q v H'
theorem box_nd {ws : List Str} (nm : NmOk ws) {n tn : Nat} (hn : n ≤ 5) (ht : tn ≤ 1) : ((List.range n).map fun k => ws.getD (18 + (k + tn) % 6) Str.empty).Nodup := by
  have wl := nm.len
  rw [List.nodup_iff_pairwise_ne, List.pairwise_map]
  refine List.Pairwise.imp_of_mem (fun {a b} ha hb hne => ?_) (List.nodup_iff_pairwise_ne.mp (List.nodup_range (n := n)))
  rw [List.mem_range] at ha hb
  intro e
  rw [List.getD_eq_getElem?_getD, List.getD_eq_getElem?_getD, List.getElem?_eq_getElem (by omega), List.getElem?_eq_getElem (by omega)] at e
  have e2 : ws[18 + (a + tn) % 6] = ws[18 + (b + tn) % 6] := e
  have h2 : ws[18 + (a + tn) % 6]? = ws[18 + (b + tn) % 6]? := by rw [List.getElem?_eq_getElem (by omega), List.getElem?_eq_getElem (by omega), e2]
  have := (List.getElem?_inj (by omega) nm.nod).mp h2
  omega
theorem calGBoxes (T : Txt K mg) : C8.Cal P w K mg base 3 "_law_boxes" spGBoxes [] := by
  have cGTake := calGTake (P := P) (w := w) (base := base) T
  have cGAnyKind := calGAnyKind (P := P) (w := w) (base := base) T
  refine mkCal (k := 2) T.fGBoxes scGBoxes T.glo__law_boxes (fun _ _ _ _ _ _ us hl => match us, hl with | [_, _, _, _, _], _ => rfl) (fun vs H Q E h => ?_) (fun cdv A outer s H vs Q E hr h => ?_)
  · obtain ⟨f, nl, kv, chv, h, ks, cs, ws, rfl, _⟩ := h
    rfl
  obtain ⟨f, nl, kv, chv, h, ks, cs, ws, rfl, hf, ka, ok, ic, cl5, ck, hnl, nlf, nm, q⟩ := h
  have hu := hu_of hr
  have wl0 := nm.len
  obtain ⟨ca, zs, rfl, hca, izs⟩ := ic.tupE
  have zl := izs.length
  rw [List.length_map] at zl
  refine ⟨_, PSs.nox (pss_cons (ps_set (i := 5) scGBoxes.nd rfl (Or.inr rfl) (pe_lst pa_nil))
      (pss_cons (ps_for PassesOwn.never rfl (pi_tup (pv 2)) (pg_tupK (K := K) (n := 4) rfl rfl (pgs_cons (pg_name (i := 6) scGBoxes.nd rfl (Or.inl rfl)) (pgs_cons (pg_name (i := 7) scGBoxes.nd rfl (Or.inl rfl)) (pgs_cons (pg_name (i := 8) scGBoxes.nd rfl (Or.inl rfl)) (pgs_cons (pg_name (i := 9) scGBoxes.nd rfl (Or.inl rfl)) pgs_nil)))))
        (pss_one (ps_if (PW.pt (pw_and (pt_cmpR op_eq (pv 8) (pv 3) (nomark _)) (pw_and1 (pt_cmpR (op_notIn_seqK (K := K) rfl) (pv 9) (pv 5) (by rfl))))) (pss_one (ps_expr (pe_bm PySem.F.plainAttrs_list PySem.F.slot_list_append PySem.F.type_list_append mt_append (pv 5) (pa_cons (pv 9) pa_nil)))) pss_nil)))
      (pss_cons (ps_for PassesOwn.never rfl (pi_range1 rfl T.free_range (pa_cons (C8.pe_c cGTake hr (by omega) rfl (pa_cons (pv 0) (pa_cons pe_int pa_nil))) pa_nil)) (pg_name (i := 10) scGBoxes.nd rfl (Or.inl rfl))
        (pss_one (ps_expr (pe_bm PySem.F.plainAttrs_list PySem.F.slot_list_append PySem.F.type_list_append mt_append (pv 5) (pa_cons (C8.pe_c cGAnyKind hr (by omega) rfl (pa_cons (pv 0) (pa_cons (pv 1) pa_nil))) pa_nil)))))
      (pss_cons (ps_set (i := 11) scGBoxes.nd rfl (Or.inr rfl) (pe_op op_fdivW (C8.pe_c cGTake hr (by omega) rfl (pa_cons (pv 0) (pa_cons pe_int pa_nil))) pe_int))
      (pss_one (ps_ret (pe_callTy call_tuple_of (by rfl) T.free_tuple (by decide +kernel) (pa_cons (pe_lc (own := [("_law_k", 10)])  rfl scGBoxes.nd (pi_range1 rfl T.free_range (pa_cons (pe_callB (call_min2 rfl) (by rfl) T.free_min (by decide +kernel) (pa_cons pe_int (pa_cons (pe_callB (call_len_seqK (K := K) rfl) (by rfl) T.free_len PySem.boot_len (pa_cons (pv 5) pa_nil)) pa_nil))) pa_nil)) (blkOk_by (N := nGBoxes) (sc := defScope sGBoxes) (by decide +kernel)) (fun _ _ _ _ _ => pg_name (i := 10) scGBoxes.nd rfl (Or.inl rfl)) (fun _ _ _ _ _ => pts_nil) (fun _ _ _ _ _ => pe_tup (pa_cons (pe_ix (ix_listK (K := K) rfl) (pv 4) (pe_op op_add pe_int (pe_op op_mod (pe_op op_add (pv 10) (pv 11)) pe_int)) (fun _ _ => rfl)) (pa_cons (pe_ix (ix_listK (K := K) rfl) (pv 5) (pv 10) (fun _ _ => rfl)) pa_nil)))) pa_nil)))))))), ?_⟩
  refine ⟨sz, fun wl nwl => ?_⟩
  have wlf := hf.ne nwl
  have s0 : Same H (upd H wl (.lst [])) := same_new nwl _
  have h0 : upd H wl (.lst []) wl = some (.lst []) := upd_same
  generalize upd H wl (.lst []) = H0 at s0 h0
  have caf : ca ≠ f := fun z => by
    obtain ⟨x, y, h1, _⟩ := hf
    rw [← z, hca] at h1
    cases h1
  have flat : ∀ wants : List Str, (wants.map V.str).all flatV = true := fun wants => List.all_eq_true.mpr fun z hz => by
    obtain ⟨y, _, rfl⟩ := List.mem_map.mp hz
    rfl
  have caw : ca ≠ wl := fun z => by rw [z, nwl] at hca; cases hca
  refine ⟨_, rfl, ca, rfl, ⟨_, SqT.of (s0 _ _ hca)⟩, for_it (walk_tup (K := K) (a := ca) (xs := zs)) (fun i σ H' => (∃ c6 c7 c8 c9, σ = [some (.ref f), some kv, some (.ref ca), some (.str h), some (.ref nl), some (.ref wl), c6, c7, c8, c9, none, none]) ∧ But [wl] H0 H' ∧
      ∃ wants : List Str, H' wl = some (.lst (wants.map V.str)) ∧ wants.length ≤ i ∧ ∀ k ∈ wants, Kd ks k)
    ⟨⟨_, _, _, _, rfl⟩, .refl, [], h0, Nat.le_refl _, fun k hk => absurd hk List.not_mem_nil⟩ (fun i σ H' _ hP => SqT.of (hP.2.1 _ _ (s0 _ _ hca) (by simpa using caw))) ?_ ?_⟩
  · rintro i y σ H1 H2 hi ⟨⟨c6, c7, c8, c9, rfl⟩, b1, wants, hwl, wlen, wok⟩ ⟨rfl, hy⟩
    have ts1 : TS H0 H2 := b1.ts fun b hb xs e => by
      rw [List.mem_singleton] at hb
      rw [hb, h0] at e
      cases e
    obtain ⟨e, he, ie⟩ := izs.of hy
    rw [List.getElem?_map] at he
    obtain ⟨c, hc, rfl⟩ := Option.map_eq_some_iff.mp he
    have cm : c ∈ cs := List.mem_of_getElem? hc
    obtain ⟨ta, w1, w2, w3, w4, rfl, hta, g1, g2, g3, g4⟩ := ((ie.mono (ts_same s0)).mono ts1).t4
    cases g1.strE
    cases g2.strE
    cases g3.strE
    cases g4.strE
    refine ⟨_, _, rfl, SqT.of hta, rfl, _, _, rfl, _, _, rfl, _, _, rfl, _, _, rfl, rfl, ?_⟩
    refine ⟨_, rfl, _, rfl, rfl, _, rfl, ite2 (fun _ => ?_) (fun _ => iteF ⟨⟨_, _, _, _, rfl⟩, b1, wants, hwl, by omega, wok⟩)⟩
    refine ⟨_, rfl, _, rfl, wl, _, rfl, .inl (SqL.of hwl), rfl, flat wants, _, rfl, ite2 (fun _ => ?_) (fun _ => ⟨⟨_, _, _, _, rfl⟩, b1, wants, hwl, by omega, wok⟩)⟩
    refine ⟨_, rfl, .inl ⟨rfl, _, SqL.of hwl⟩, _, rfl, wl, _, _, rfl, rfl, hwl, small1000 (by rw [List.length_map]; omega), ?_⟩
    refine ⟨⟨_, _, _, _, rfl⟩, b1.put (by simp) _, wants ++ [c.kd], by rw [List.map_append]; exact upd_same, by rw [List.length_append, List.length_singleton]; omega, fun k hk => ?_⟩
    rcases List.mem_append.mp hk with hk | hk
    · exact wok k hk
    · rw [List.mem_singleton.mp hk]; exact ck c cm
  · rintro σ H1 ⟨⟨c6, c7, c8, c9, rfl⟩, b1, wants, hwl, wlen, wok⟩
    have G1 : Go f H H1 := by
      refine ⟨fun b o e n => b1 _ _ (s0 _ _ e) fun z => ?_, ?_⟩
      · rw [List.mem_singleton] at z
        rw [z, nwl] at e
        cases e
      · obtain ⟨x, y, h1, h2⟩ := hf
        exact ⟨x, y, b1 _ _ (s0 _ _ h1) (by simpa using Ne.symm wlf), h2⟩
    have wln1 : wants.length ≤ 5 := by omega
    refine ⟨_, rfl, f, 3, rfl, G1.2, by decide, by decide, fun r H2 r0 r1 g2 => ?_⟩
    refine ⟨_, rfl, by omega, by omega, for_it walk_range (fun i σ H' => (∃ c6 c7 c8 c9 c10, σ = [some (.ref f), some kv, some (.ref ca), some (.str h), some (.ref nl), some (.ref wl), c6, c7, c8, c9, c10, none]) ∧ Go f H H' ∧ ∃ wants : List Str, H' wl = some (.lst (wants.map V.str)) ∧ wants.length ≤ 5 + i ∧ ∀ k ∈ wants, Kd ks k)
      ⟨⟨_, _, _, _, _, rfl⟩, G1.tr g2, wants, g2.at hwl wlf, wln1, wok⟩ (fun _ _ _ _ _ => trivial) ?_ ?_⟩
    · rintro i y σ H3 H4 hi ⟨⟨c6, c7, c8, c9, c10, rfl⟩, G3, wants, hwl, wlen, wok⟩ ⟨rfl, rfl⟩
      have hi2 : i < 3 := by omega
      refine ⟨_, rfl, .inl ⟨rfl, _, SqL.of hwl⟩, _, rfl, _, rfl, f, kv, ks, rfl, G3.2, ka.mono (hf.ts G3), ok, fun kd H5 g5 hkd => ?_⟩
      have hwl5 := g5.at hwl wlf
      have G5 := G3.tr g5
      refine ⟨wl, _, _, rfl, rfl, hwl5, small1000 (by rw [List.length_map]; omega), ?_⟩
      refine ⟨⟨_, _, _, _, _, rfl⟩, ⟨fun b' o e n => ?_, G5.2.put wlf⟩, wants ++ [kd], by rw [List.map_append]; exact upd_same, by rw [List.length_append, List.length_singleton]; omega, fun k hk => ?_⟩
      · rw [upd_ne (fun z => by rw [z, nwl] at e; cases e)]
        exact G5.1 b' o e n
      · rcases List.mem_append.mp hk with hk | hk
        · exact wok k hk
        · rw [List.mem_singleton.mp hk]; exact hkd
    · rintro σ H3 ⟨⟨c6, c7, c8, c9, c10, rfl⟩, G3, wants, hwl, wlen, wok⟩
      have wlen7 : wants.length ≤ 10 := by omega
      refine ⟨_, rfl, f, 4, rfl, G3.2, by decide, by decide, fun r4 H4 r40 r41 g4 => ⟨_, _, rfl, rfl, divw (by decide) (by decide), ?_⟩⟩
      have G4 := G3.tr g4
      have hwl4 := g4.at hwl wlf
      have hnl4 := G4.at hnl nlf
      obtain ⟨tn, htn⟩ : ∃ tn : Nat, r4 / 2 = (tn : Int) := ⟨(r4 / 2).toNat, by omega⟩
      have tn1 : tn ≤ 1 := by omega
      have J : (0 : Int) ≤ (if ((wants.map V.str).length : Int) < 5 then ((wants.map V.str).length : Int) else 5) ∧ (if ((wants.map V.str).length : Int) < 5 then ((wants.map V.str).length : Int) else 5) ≤ 5 ∧ (if ((wants.map V.str).length : Int) < 5 then ((wants.map V.str).length : Int) else 5) ≤ (wants.length : Int) := by
        rw [List.length_map]
        split <;> omega
      have J5 := Int.toNat_le.mpr J.2.1
      have Jw := Int.toNat_le.mpr J.2.2
      refine ⟨_, rfl, wl, _, rfl, .inl (SqL.of hwl4), _, _, rfl, _, rfl, Int.le_trans (by decide) J.1, Int.lt_of_le_of_lt J.2.1 (by decide), fun D nD => ?_⟩
      refine lc_it walk_range (fun i H' => Same H4 H' ∧ ∃ (us : List V) (bx : List (Str × Str)), H' D = some (.lst us) ∧ Ims H' us (bx.map partD) ∧ bx.map (·.1) = (List.range i).map (fun k => ws.getD (18 + (k + tn) % 6) Str.empty) ∧ bx.length = i ∧ ∀ p ∈ bx, Kd ks p.2 ∧ p.1 ∈ ws)
        ⟨same_new nD _, [], [], upd_same, .nil, rfl, rfl, fun p hp => absurd hp List.not_mem_nil⟩ (fun _ _ _ _ => trivial) ?_ ?_
      · rintro i y H5 H6 hi ⟨s5, us, bx, hD, ius, bnm, bln, bok⟩ ⟨rfl, rfl⟩
        have hi5 : i < 5 := Nat.lt_of_lt_of_le hi J5
        have hiw : i < wants.length := Nat.lt_of_lt_of_le hi Jw
        have usl := ius.length
        rw [List.length_map] at usl
        have zi : (0 : Int) + (i : Int) = ((i : Nat) : Int) := Int.zero_add _
        have ze : (18 : Int) + (0 + (i : Int) + r4 / 2) % 6 = ((18 + (i + tn) % 6 : Nat) : Int) := by rw [htn]; omega
        obtain ⟨xn, hxn⟩ : ∃ x, ws[18 + (i + tn) % 6]? = some x := ⟨_, List.getElem?_eq_getElem (by omega)⟩
        obtain ⟨xk, hxk⟩ : ∃ x, wants[i]? = some x := ⟨_, List.getElem?_eq_getElem hiw⟩
        have axn : atI (ws.map V.str) (18 + (0 + (i : Int) + r4 / 2) % 6) = some (.str xn) := by rw [ze]; exact atI_nat (by rw [List.getElem?_map, hxn]; rfl)
        have axk : atI (wants.map V.str) (0 + (i : Int)) = some (.str xk) := by rw [zi]; exact atI_nat (by rw [List.getElem?_map, hxk]; rfl)
        refine ⟨rfl, lcYes ?_⟩
        refine ⟨_, rfl, _, rfl, _, rfl, _, _, rfl, rfl, _, _, rfl, rfl, (by show (0 : Int) < 6; decide), _, _, rfl, rfl, _, _, _, _, rfl, rfl, SqL.of (s5 _ _ hnl4), axn, _, rfl, _, rfl, _, _, _, _, rfl, rfl, SqL.of (s5 _ _ hwl4), axk, sz, fun t nt => ?_⟩
        have s7 : Same H6 (upd H6 t (.tup [.str xn, .str xk])) := same_new nt _
        have ht : upd H6 t (.tup [.str xn, .str xk]) t = some (.tup [.str xn, .str xk]) := upd_same
        have tsp : TS (upd H6 t (.tup [.str xn, .str xk])) (upd (upd H6 t (.tup [.str xn, .str xk])) D (.lst (us ++ [.ref t]))) := ts_lst (s7 _ _ hD)
        refine ⟨_, s7 _ _ hD, small1000 (by omega), same_upd (Same.tr s5 s7) nD _, us ++ [.ref t], bx ++ [(xn, xk)], upd_same, ?_, ?_, by rw [List.length_append, bln]; rfl, fun p hp => ?_⟩
        · rw [List.map_append]
          exact ((ius.mono (ts_same s7)).mono tsp).snoc (.tup (tsp _ _ ht) (.cons (.str _) (.cons (.str _) .nil)))
        · rw [List.map_append, bnm, List.range_succ, List.map_append]
          congr 1
          rw [List.map_singleton, List.map_singleton, List.getD_eq_getElem?_getD, hxn]
          rfl
        · rcases List.mem_append.mp hp with hp | hp
          · exact bok p hp
          · rw [List.mem_singleton.mp hp]
            exact ⟨wok xk (List.mem_of_getElem? hxk), List.mem_of_getElem? hxn⟩
      · rintro H5 ⟨s5, us, bx, hD, ius, bnm, bln, bok⟩
        refine ⟨D, us, rfl, .inl ⟨SqL.of hD, fun t nt => ?_⟩⟩
        have s6 : Same H5 (upd H5 t (.tup us)) := same_new nt _
        exact q _ bx _ (G4.sm (Same.tr s5 s6)) (.tup upd_same (ius.mono (ts_same s6))) (by rw [bnm]; exact box_nd nm J5 tn1) bok (by rw [bln]; exact J5)
end
end Sw
set_option Elab.async false
set_option linter.all false
set_option maxRecDepth 100000
set_option maxHeartbeats 4000000
/-! The law's deal. -/
namespace Sw
open PySem PySem.Spec PyProof.Rows L2
/-- a row that leads on -/
def DealOk (ks : List KR) (cs : List Ch) (h : Str) (bx : List (Str × Str)) (d : PyData) : Prop := ∀ (hd : Hd) (m k : Nat), hd.nm = h → hd.bx = bx → k + 1 < m → RowOk ks cs hd m k d
/-- what a hand's rows are made of -/
structure RCtx (H : Hp) (f : Addr) (kv chv : V) (h : Str) (bxv : V) (ks : List KR) (cs : List Ch) (bx : List (Str × Str)) : Prop where
  fd : Feed H f
  ka : KsAt H kv ks
  ok : KOk ks
  ic : Im H chv (.tuple (cs.map Ch.d))
  cl : cs.length ≤ 5
  ck : ∀ c ∈ cs, Kd ks c.kd
  ib : Im H bxv (.tuple (bx.map partD))
  bl : bx.length ≤ 5
  bn : (bx.map (·.1)).Nodup
  bk : ∀ p ∈ bx, Kd ks p.2
  bg : ∀ p ∈ bx, Good p.1
theorem RCtx.mv {H H' : Hp} {f : Addr} {kv chv : V} {h : Str} {bxv : V} {ks : List KR} {cs : List Ch} {bx : List (Str × Str)} (c : RCtx H f kv chv h bxv ks cs bx) (t : TS H H') (fd : Feed H' f) : RCtx H' f kv chv h bxv ks cs bx :=
  { c with fd := fd, ka := c.ka.mono t, ic := c.ic.mono t, ib := c.ib.mono t }
theorem RCtx.go {H H' : Hp} {f : Addr} {kv chv : V} {h : Str} {bxv : V} {ks : List KR} {cs : List Ch} {bx : List (Str × Str)} (c : RCtx H f kv chv h bxv ks cs bx) (g : Go f H H') : RCtx H' f kv chv h bxv ks cs bx := c.mv (c.fd.ts g) g.2
/-- a list of the boxes, for a new term -/
theorem RCtx.tc {H : Hp} {f : Addr} {kv chv : V} {h : Str} {bxv : V} {ks : List KR} {cs : List Ch} {bx : List (Str × Str)} (c : RCtx H f kv chv h bxv ks cs bx) {l : Addr} {us : List V} (e : H l = some (.lst us)) (i : Ims H us (bx.map partD)) (n : l ≠ f) : TCtx H f kv l ks bx 2 :=
  ⟨c.fd, c.ka, c.ok, ⟨us, e, i⟩, n, c.bn, c.bk, fun q hq j hj z => notGood_by j (by omega) (by rw [← z]; exact c.bg q hq), by have := c.bl; omega, by decide⟩
theorem seqI {k : Int} {n : Nat} (h0 : 0 ≤ k) (hn : k < (n : Int)) : seqIndex? k n = some k.toNat := by
  unfold seqIndex?
  have h1 : ¬ k < 0 := by omega
  simp only [h1, if_false]
  rw [if_pos (by simp [h0, hn])]
theorem erase_map {l : List Str} {i : Nat} : (l.eraseIdx i).map V.str = (l.map V.str).eraseIdx i := by
  induction l generalizing i with
  | nil => rfl
  | cons a r ih =>
    cases i with
    | zero => rfl
    | succ i => exact congrArg (V.str a :: ·) ih
section
variable {P : Program} {w : World} {K : PySem.W.Frag} {mg : Str → Option Value} {base : Heap}
def spGDeal : Sp := fun vs H Q _ => ∃ (f ml : Addr) (kv chv bxv : V) (h : Str) (ks : List KR) (cs : List Ch) (bx : List (Str × Str)) (marks : List Str), vs = [.ref f, kv, chv, .str h, bxv, .ref ml] ∧ RCtx H f kv chv h bxv ks cs bx ∧ H ml = some (.lst (marks.map V.str)) ∧ ml ≠ f ∧ marks.length ≤ 10 ∧
  ∀ (v : V) (d : PyData) (marks' : List Str) (H' : Hp), But [f, ml] H H' → Feed H' f → H' ml = some (.lst (marks'.map V.str)) → Im H' v d → DealOk ks cs h bx d → (marks' = marks ∨ wrd d = "take") → marks'.length ≤ marks.length → Q v H'
theorem calGDeal (T : Txt K mg) : C8.Cal P w K mg base 23 "_law_deal" spGDeal [] := by
  have cGTake := calGTake (P := P) (w := w) (base := base) T
  have cGInto := calGInto (P := P) (w := w) (base := base) T
  have cGNewTerm := calGNewTerm (P := P) (w := w) (base := base) T
  refine mkCal (k := 22) T.fGDeal scGDeal T.glo__law_deal (fun _ _ _ _ _ _ us hl => match us, hl with | [_, _, _, _, _, _], _ => rfl) (fun vs H Q E h => ?_) (fun cdv A outer s H vs Q E hr h => ?_)
  · obtain ⟨f, ml, kv, chv, bxv, h, ks, cs, bx, marks, rfl, _⟩ := h
    rfl
  obtain ⟨f, ml, kv, chv, bxv, h, ks, cs, bx, marks, rfl, rc, hml, mlf, mlen, q⟩ := h
  have hu := hu_of hr
  have hf := rc.fd
  have bl := rc.bl
  have cl := rc.cl
  obtain ⟨ca, zs, rfl, hca, izs⟩ := rc.ic.tupE
  obtain ⟨ba, bs, rfl, hba, ibs⟩ := rc.ib.tupE
  have zl := izs.length
  rw [List.length_map] at zl
  have bsl := ibs.length
  rw [List.length_map] at bsl
  have nf : ∀ {b : Addr} {us : List V}, H b = some (.tup us) → b ≠ f := fun {b us} e z => by
    obtain ⟨x, y, h1, _⟩ := hf
    rw [← z, e] at h1
    cases h1
  refine ⟨_, PSs.nox (pss_cons (ps_set (i := 6) scGDeal.nd rfl (Or.inl rfl) (C8.pe_c cGTake hr (by omega) rfl (pa_cons (pv 0) (pa_cons pe_int pa_nil))))
      (pss_cons (ps_set (i := 7) scGDeal.nd rfl (Or.inl rfl) (C8.pe_c cGInto hr (by omega) rfl (pa_cons (pv 2) (pa_cons (pv 3) (pa_cons (pv 4) pa_nil)))))
      (pss_cons (ps_setLc (own := [("_law_c", 9), ("_law_come", 12), ("_law_to", 13), ("_law_kind", 11)]) (i := 8) rfl scGDeal.nd rfl rfl (sw_true rfl rfl rfl (by decide +kernel)) (pi_tup (pv 2)) (blkOk_by (N := nGDeal) (sc := defScope sGDeal) (by decide +kernel)) (fun _ _ _ _ _ => pg_tupK (K := K) (n := 4) rfl rfl (pgs_cons (pg_name (i := 9) scGDeal.nd rfl (Or.inl rfl)) (pgs_cons (pg_name (i := 12) scGDeal.nd rfl (Or.inl rfl)) (pgs_cons (pg_name (i := 13) scGDeal.nd rfl (Or.inl rfl)) (pgs_cons (pg_name (i := 11) scGDeal.nd rfl (Or.inl rfl)) pgs_nil))))) (fun _ _ _ _ _ => pts_one (pt_cmpR op_eq (pv 12) (pv 3) (nomark _))) (fun _ _ _ _ _ => pe_tup (pa_cons (pv 9) (pa_cons (pv 11) pa_nil))))
      (C8.pss_cut (ps_if (PW.pt (pw_and (pt_cmpR op_lt (pv 6) pe_int (nomark _)) (pw_and (pt_cmpR op_gt (pe_callB (call_len_seqK (K := K) rfl) (by rfl) T.free_len PySem.boot_len (pa_cons (pv 7) pa_nil)) pe_int (nomark _)) (pw_and1 (pt_cmpR op_gt (pe_callB (call_len_seqK (K := K) rfl) (by rfl) T.free_len PySem.boot_len (pa_cons (pv 5) pa_nil)) pe_int (nomark _)))))) (pss_cons (ps_asg (pe_ix (ix_listK (K := K) rfl) (pv 7) (C8.pe_c cGTake hr (by omega) rfl (pa_cons (pv 0) (pa_cons (pe_callB (call_len_seqK (K := K) rfl) (by rfl) T.free_len PySem.boot_len (pa_cons (pv 7) pa_nil)) pa_nil))) (fun _ _ => rfl)) (pg_tupK (K := K) (n := 2) rfl rfl (pgs_cons (pg_name (i := 9) scGDeal.nd rfl (Or.inl rfl)) (pgs_cons (pg_name (i := 10) scGDeal.nd rfl (Or.inl rfl)) pgs_nil))))
        (pss_one (ps_ret (pe_tup (pa_cons pe_str (pa_cons (pe_bm PySem.F.plainAttrs_list PySem.F.slot_list_pop PySem.F.type_list_pop mt_popAt (pv 5) (pa_cons (C8.pe_c cGTake hr (by omega) rfl (pa_cons (pv 0) (pa_cons (pe_callB (call_len_seqK (K := K) rfl) (by rfl) T.free_len PySem.boot_len (pa_cons (pv 5) pa_nil)) pa_nil))) pa_nil)) (pa_cons (pv 9) (pa_cons (pv 10) pa_nil)))))))) pss_nil)
      (C8.pss_cut (ps_if (PW.pt (pw_and (pt_cmpR op_lt (pv 6) pe_int (nomark _)) (pw_and1 (pt_cmpR op_gt (pe_callB (call_len_seqK (K := K) rfl) (by rfl) T.free_len PySem.boot_len (pa_cons (pv 8) pa_nil)) pe_int (nomark _))))) (pss_cons (ps_asg (pe_ix (ix_listK (K := K) rfl) (pv 8) (C8.pe_c cGTake hr (by omega) rfl (pa_cons (pv 0) (pa_cons (pe_callB (call_len_seqK (K := K) rfl) (by rfl) T.free_len PySem.boot_len (pa_cons (pv 8) pa_nil)) pa_nil))) (fun _ _ => rfl)) (pg_tupK (K := K) (n := 2) rfl rfl (pgs_cons (pg_name (i := 9) scGDeal.nd rfl (Or.inl rfl)) (pgs_cons (pg_name (i := 11) scGDeal.nd rfl (Or.inl rfl)) pgs_nil))))
        (pss_one (ps_ret (pe_tup (pa_cons pe_str (pa_cons (pv 9) (pa_cons (C8.pe_c cGNewTerm hr (by omega) rfl (pa_cons (pv 0) (pa_cons (pv 1) (pa_cons (pe_callTy call_list_of (by rfl) T.free_list (by decide +kernel) (pa_cons (pv 4) pa_nil)) (pa_cons (pv 11) pa_nil))))) pa_nil))))))) pss_nil)
      (C8.pss_cut (ps_if (PW.pt (pw_and (pt_cmpR op_lt (pv 6) pe_int (nomark _)) (pw_and1 (pt_cmpR op_gt (pe_callB (call_len_seqK (K := K) rfl) (by rfl) T.free_len PySem.boot_len (pa_cons (pv 4) pa_nil)) pe_int (nomark _))))) (pss_cons (ps_asg (pe_ix (ix_tupK (K := K) rfl) (pv 4) (C8.pe_c cGTake hr (by omega) rfl (pa_cons (pv 0) (pa_cons (pe_callB (call_len_seqK (K := K) rfl) (by rfl) T.free_len PySem.boot_len (pa_cons (pv 4) pa_nil)) pa_nil))) (fun _ _ => rfl)) (pg_tupK (K := K) (n := 2) rfl rfl (pgs_cons (pg_name (i := 10) scGDeal.nd rfl (Or.inl rfl)) (pgs_cons (pg_name (i := 11) scGDeal.nd rfl (Or.inl rfl)) pgs_nil))))
        (pss_one (ps_ret (pe_tup (pa_cons pe_str (pa_cons (pv 10) (pa_cons (C8.pe_c cGNewTerm hr (by omega) rfl (pa_cons (pv 0) (pa_cons (pv 1) (pa_cons (pe_callTy call_list_of (by rfl) T.free_list (by decide +kernel) (pa_cons (pv 4) pa_nil)) (pa_cons (pv 11) pa_nil))))) pa_nil))))))) pss_nil)
      (pss_one (ps_ret (pe_tup (pa_cons pe_str (pa_cons (C8.pe_c cGNewTerm hr (by omega) rfl (pa_cons (pv 0) (pa_cons (pv 1) (pa_cons (pe_callTy call_list_of (by rfl) T.free_list (by decide +kernel) (pa_cons (pv 4) pa_nil)) (pa_cons pe_str pa_nil))))) pa_nil))))))))))), ?_⟩
  refine ⟨_, rfl, f, 8, rfl, hf, by decide, by decide, fun form H1 f0 f1 g1 => ?_⟩
  have rc1 := rc.go g1
  refine ⟨_, rfl, _, rfl, _, rfl, .ref ca, .ref ba, h, cs, bx, rfl, rc1.ic, cl, rc1.ib, bl, fun il ius ips H2 s2 nil hil iius iok il25 => ?_⟩
  have g2 : Go f H H2 := g1.sm s2
  have ilf := g1.2.ne nil
  refine ⟨_, rfl, ca, rfl, ⟨_, SqT.of (g2.at hca (nf hca))⟩, fun D nD => ?_⟩
  refine lc_it (walk_tup (K := K) (a := ca) (xs := zs)) (fun j H' => Same H2 H' ∧ ∃ (us : List V) (out : List (Str × Str)), H' D = some (.lst us) ∧ Ims H' us (out.map partD) ∧ us.length ≤ j ∧ ∀ z ∈ out, ∃ c ∈ cs, c.nm = z.1 ∧ c.kd = z.2 ∧ c.fr = h)
    ⟨same_new nD _, [], [], upd_same, .nil, Nat.le_refl _, fun z hz => absurd hz List.not_mem_nil⟩ (fun j H' _ hP => SqT.of (hP.1 _ _ (g2.at hca (nf hca)))) ?_ ?_
  · rintro j y H3 H4 hj ⟨s3, us, out, hD, ius', ul, ook⟩ ⟨rfl, hy⟩
    obtain ⟨e, he, ie⟩ := izs.of hy
    rw [List.getElem?_map] at he
    obtain ⟨c, hc, rfl⟩ := Option.map_eq_some_iff.mp he
    have cm : c ∈ cs := List.mem_of_getElem? hc
    obtain ⟨ta, w1, w2, w3, w4, rfl, hta, k1, k2, k3, k4⟩ := ((ie.mono (hf.ts g2)).mono (ts_same s3)).t4
    cases k1.strE
    cases k2.strE
    cases k3.strE
    cases k4.strE
    refine ⟨_, _, rfl, SqT.of hta, rfl, _, _, rfl, _, _, rfl, _, _, rfl, _, _, rfl, rfl, ?_, ?_⟩
    · kernel_rfl
    refine ⟨_, rfl, _, rfl, rfl, _, rfl, ?_⟩
    by_cases c1 : c.fr = h
    · refine iteT' (decide_eq_true (by rw [c1])) ?_
      refine ⟨_, rfl, _, rfl, sz, fun t2 nt2 => ?_⟩
      have s9 : Same H4 (upd H4 t2 (.tup [.str c.nm, .str c.kd])) := same_new nt2 _
      have ht2 : upd H4 t2 (.tup [.str c.nm, .str c.kd]) t2 = some (.tup [.str c.nm, .str c.kd]) := upd_same
      have tsp : TS (upd H4 t2 (.tup [.str c.nm, .str c.kd])) (upd (upd H4 t2 (.tup [.str c.nm, .str c.kd])) D (.lst (us ++ [.ref t2]))) := ts_lst (s9 _ _ hD)
      refine ⟨_, s9 _ _ hD, small1000 (by omega), same_upd (Same.tr s3 s9) nD _, us ++ [.ref t2], out ++ [(c.nm, c.kd)], upd_same, ?_, by rw [List.length_append, List.length_singleton]; omega, fun z hz => ?_⟩
      · rw [List.map_append]
        exact ((ius'.mono (ts_same s9)).mono tsp).snoc (.tup (tsp _ _ ht2) (.cons (.str _) (.cons (.str _) .nil)))
      · rcases List.mem_append.mp hz with hz | hz
        · exact ook z hz
        · rw [List.mem_singleton.mp hz]
          exact ⟨c, cm, rfl, rfl, c1⟩
    · refine iteF' (decide_eq_false (fun z => c1 (V.str.inj z))) ?_
      exact ⟨s3, us, out, hD, ius', by omega, ook⟩
  rintro H3 ⟨s3, us, out, hD, ius', ul, ook⟩
  have Df := g2.2.ne nD
  have g3 : Go f H H3 := g2.sm s3
  have hil3 := s3 _ _ hil
  have iius3 := iius.mono (ts_same s3)
  have hml3 := g3.at hml mlf
  have rc3 := rc.go g3
  have iul := iius3.length
  rw [List.length_map] at iul
  have oul := ius'.length
  rw [List.length_map] at oul
  have bml : ∀ {H' : Hp}, Go f H H' → But [f, ml] H H' := fun g => g.1.sub fun b hb => by
    rw [List.mem_singleton] at hb
    rw [hb]
    exact List.mem_cons_self
  -- one of a list of pairs by a draw
  have pair : ∀ {H' : Hp} {l : Addr} {us : List V} {ps : List (Str × Str)} {r : Int}, Ims H' us (ps.map partD) → 0 ≤ r → r < (us.length : Int) → ∃ (p : Str × Str) (t : Addr), p ∈ ps ∧ atI us r = some (.ref t) ∧ H' t = some (.tup [.str p.1, .str p.2]) := fun {H' l us ps r} im r0 r1 => by
    have l1 := im.length
    rw [List.length_map] at l1
    obtain ⟨p, hp, pin, _⟩ := drawn (l := ps) r0 (by omega)
    obtain ⟨y, hy, iy⟩ := im.at (i := r.toNat) (d := partD p) (by rw [List.getElem?_map, hp]; rfl)
    obtain ⟨t, w1, w2, rfl, ht, j1, j2⟩ := iy.t2
    cases j1.strE
    cases j2.strE
    refine ⟨p, t, pin, ?_, ht⟩
    have e : r = ((r.toNat : Nat) : Int) := by omega
    rw [e]
    exact atI_nat hy
  let S0 : L2.St := [some (.ref f), some kv, some (.ref ca), some (.str h), some (.ref ba), some (.ref ml), some (.int form), some (.ref il), some (.ref D), none, none, none, none, none]
  refine ⟨fun σ' H' => σ' = S0 ∧ H' = H3, ?_, ?_⟩
  · refine ⟨_, rfl, _, _, rfl, rfl, _, rfl, ite2 (fun _ => ?_) (fun _ => iteF ⟨rfl, rfl⟩)⟩
    refine ⟨_, rfl, il, _, rfl, .inl (SqL.of hil3), _, _, rfl, rfl, _, rfl, ite2 (fun c1 => ?_) (fun _ => iteF ⟨rfl, rfl⟩)⟩
    refine ⟨_, rfl, ml, _, rfl, .inl (SqL.of hml3), _, _, rfl, rfl, _, rfl, ite2 (fun c2 => ?_) (fun _ => ⟨rfl, rfl⟩)⟩
    have c1' : (0 : Int) < (ius.length : Int) := of_decide_eq_true c1
    have c2' : (0 : Int) < ((marks.map V.str).length : Int) := of_decide_eq_true c2
    rw [List.length_map] at c2'
    refine ⟨_, rfl, _, rfl, _, rfl, il, _, rfl, .inl (SqL.of hil3), f, _, rfl, g3.2, by omega, by omega, fun r H4 r0 r1 g4 => ?_⟩
    obtain ⟨p, t, pin, at_, ht⟩ := pair (l := il) (iius3.mono (g3.2.ts g4)) r0 r1
    refine ⟨il, _, _, _, rfl, rfl, SqL.of (g4.at hil3 ilf), at_, ?_⟩
    refine ⟨_, _, rfl, SqT.of ht, rfl, _, _, rfl, _, _, rfl, rfl, ?_⟩
    have g34 := g3.tr g4
    have hml4 := g34.at hml mlf
    refine ⟨_, rfl, .inl ⟨rfl, _, SqL.of hml4⟩, _, rfl, _, rfl, ml, _, rfl, .inl (SqL.of hml4), f, _, rfl, g34.2, by rw [List.length_map]; omega, by rw [List.length_map]; omega, fun r2 H5 r20 r21 g5 => ?_⟩
    obtain ⟨mk, hmk⟩ : ∃ x, marks[r2.toNat]? = some x := ⟨_, List.getElem?_eq_getElem (by rw [List.length_map] at r21; omega)⟩
    rw [List.length_map] at r21
    have hml5 : H5 ml = some (.lst (marks.map V.str)) := g5.at hml4 mlf
    have g35 := g34.tr g5
    refine ⟨ml, marks.map V.str, r2, r2.toNat, .str mk, rfl, rfl, hml5, by omega, by omega, seqI r20 (by rw [List.length_map]; omega), by rw [List.getElem?_map, hmk]; rfl, ?_⟩
    rw [← erase_map]
    have tsp : TS H5 (upd H5 ml (.lst ((marks.eraseIdx r2.toNat).map V.str))) := ts_lst hml5
    have b6 : But [f, ml] H (upd H5 ml (.lst ((marks.eraseIdx r2.toNat).map V.str))) := (bml g35).put (by simp) _
    have f6 : Feed (upd H5 ml (.lst ((marks.eraseIdx r2.toNat).map V.str))) f := g35.2.put mlf
    have m6 : upd H5 ml (.lst ((marks.eraseIdx r2.toNat).map V.str)) ml = some (.lst ((marks.eraseIdx r2.toNat).map V.str)) := upd_same
    generalize upd H5 ml (.lst ((marks.eraseIdx r2.toNat).map V.str)) = H6 at b6 f6 m6
    refine ⟨_, rfl, _, rfl, sz, fun t3 nt3 => ?_⟩
    have s7 : Same H6 (upd H6 t3 (.tup [.str "take", .str mk, .str p.1, .str p.2])) := same_new nt3 _
    obtain ⟨c, cm, cn, ct, cb⟩ := iok p pin
    refine q _ (.tuple [.str "take", .str mk, .str p.1, .str p.2]) _ _ (b6.trans (.same s7)) (f6.same s7) (s7 _ _ m6) (.tup upd_same (.cons (.str _) (.cons (.str _) (.cons (.str _) (.cons (.str _) .nil))))) (fun hd m k e1 e2 e3 => ?_) (.inr rfl) (List.length_eraseIdx_le _ _)
    rw [← cn]
    exact .take cm (by rw [ct, e1]) (by rw [e2]; exact cb) e3
  rintro σ4 H4 ⟨rfl, rfl⟩
  have hba3 := g3.at hba (nf hba)
  have ibs3 : Ims H4 bs (bx.map partD) := ibs.mono (hf.ts g3)
  -- a new term over the boxes
  have mk_ : ∀ {H' : Hp} {l : Addr}, Go f H H' → H' l = none → TCtx (upd H' l (.lst bs)) f kv l ks bx 2 ∧ Go f H (upd H' l (.lst bs)) := fun {H' l} g n => by
    have s : Same H' (upd H' l (.lst bs)) := same_new n _
    have g' := g.sm s
    exact ⟨(rc.go g').tc upd_same (ibs.mono (hf.ts g')) (g.2.ne n), g'⟩
  have fin : ∀ {H' : Hp} {v : V} {d : PyData}, Go f H H' → Im H' v d → DealOk ks cs h bx d → Q v H' := fun {H' v d} g i o => q v d marks H' (bml g) g.2 (g.at hml mlf) i o (.inl rfl) (Nat.le_refl _)
  refine ⟨fun σ' H' => σ' = S0 ∧ H' = H4, ?_, ?_⟩
  · refine ⟨_, rfl, _, _, rfl, rfl, _, rfl, ite2 (fun _ => ?_) (fun _ => iteF ⟨rfl, rfl⟩)⟩
    refine ⟨_, rfl, D, _, rfl, .inl (SqL.of hD), _, _, rfl, rfl, _, rfl, ite2 (fun c1 => ?_) (fun _ => ⟨rfl, rfl⟩)⟩
    have c1' : (0 : Int) < (us.length : Int) := of_decide_eq_true c1
    refine ⟨_, rfl, _, rfl, _, rfl, D, _, rfl, .inl (SqL.of hD), f, _, rfl, g3.2, by omega, by omega, fun r H5 r0 r1 g5 => ?_⟩
    obtain ⟨p, t, pin, at_, ht⟩ := pair (l := D) (ius'.mono (g3.2.ts g5)) r0 r1
    refine ⟨D, _, _, _, rfl, rfl, SqL.of (g5.at hD Df), at_, ?_⟩
    refine ⟨_, _, rfl, SqT.of ht, rfl, _, _, rfl, _, _, rfl, rfl, ?_⟩
    have g35 := g3.tr g5
    refine ⟨_, rfl, _, rfl, _, rfl, _, rfl, ba, bs, rfl, .inr (SqT.of (g35.at hba (nf hba))), fun l nl => ?_⟩
    obtain ⟨tc, g6⟩ := mk_ g35 nl
    obtain ⟨c, cm, cn, ck, cfr⟩ := ook p pin
    refine ⟨_, rfl, f, l, kv, p.2, ks, bx, rfl, tc, by rw [← ck]; exact rc.ck c cm, fun v t H7 g7 iv wt => ⟨sz, fun t2 nt2 => ?_⟩⟩
    have s8 : Same H7 (upd H7 t2 (.tup [.str "send", .str p.1, v])) := same_new nt2 _
    refine fin (d := .tuple [.str "send", .str p.1, t]) ((g6.tr g7).sm s8) (.tup upd_same (.cons (.str _) (.cons (.str _) (.cons (iv.mono (ts_same s8)) .nil)))) (fun hd m k e1 e2 e3 => ?_)
    rw [← cn]
    exact .send cm (by rw [cfr, e1]) (by rw [ck, e2]; exact wt) e3
  rintro σ5 H5 ⟨rfl, rfl⟩
  refine ⟨fun σ' H' => σ' = S0 ∧ H' = H5, ?_, ?_⟩
  · refine ⟨_, rfl, _, _, rfl, rfl, _, rfl, ite2 (fun _ => ?_) (fun _ => iteF ⟨rfl, rfl⟩)⟩
    refine ⟨_, rfl, ba, _, rfl, .inr (SqT.of hba3), _, _, rfl, rfl, _, rfl, ite2 (fun c1 => ?_) (fun _ => ⟨rfl, rfl⟩)⟩
    have c1' : (0 : Int) < (bs.length : Int) := of_decide_eq_true c1
    refine ⟨_, rfl, _, rfl, _, rfl, ba, _, rfl, .inr (SqT.of hba3), f, _, rfl, g3.2, by omega, by omega, fun r H6 r0 r1 g6 => ?_⟩
    obtain ⟨p, t, pin, at_, ht⟩ := pair (l := ba) (ibs3.mono (g3.2.ts g6)) r0 r1
    have g36 := g3.tr g6
    refine ⟨_, _, _, _, rfl, rfl, SqT.of (g36.at hba (nf hba)), at_, ?_⟩
    refine ⟨_, _, rfl, SqT.of ht, rfl, _, _, rfl, _, _, rfl, rfl, ?_⟩
    refine ⟨_, rfl, _, rfl, _, rfl, _, rfl, ba, bs, rfl, .inr (SqT.of (g36.at hba (nf hba))), fun l nl => ?_⟩
    obtain ⟨tc, g7⟩ := mk_ g36 nl
    refine ⟨_, rfl, f, l, kv, p.2, ks, bx, rfl, tc, rc.bk p pin, fun v t H8 g8 iv wt => ⟨sz, fun t2 nt2 => ?_⟩⟩
    have s9 : Same H8 (upd H8 t2 (.tup [.str "set", .str p.1, v])) := same_new nt2 _
    exact fin (d := .tuple [.str "set", .str p.1, t]) ((g7.tr g8).sm s9) (.tup upd_same (.cons (.str _) (.cons (.str _) (.cons (iv.mono (ts_same s9)) .nil)))) (fun hd m k e1 e2 e3 => .set (by rw [e2]; exact pin) (by rw [e2]; exact wt) e3)
  rintro σ6 H6 ⟨rfl, rfl⟩
  refine ⟨_, rfl, _, rfl, _, rfl, ba, bs, rfl, .inr (SqT.of hba3), fun l nl => ?_⟩
  obtain ⟨tc, g7⟩ := mk_ g3 nl
  refine ⟨f, l, kv, numK, ks, bx, rfl, tc, .inl rfl, fun v t H8 g8 iv wt => ⟨sz, fun t2 nt2 => ?_⟩⟩
  have s9 : Same H8 (upd H8 t2 (.tup [.str "tell", v])) := same_new nt2 _
  exact fin (d := .tuple [.str "tell", t]) ((g7.tr g8).sm s9) (.tup upd_same (.cons (.str _) (.cons (iv.mono (ts_same s9)) .nil))) (fun hd m k e1 e2 e3 => .tell (by rw [e2]; exact wt) e3)
end
end Sw
set_option Elab.async false
set_option linter.all false
set_option maxRecDepth 100000
set_option maxHeartbeats 4000000
/-! The law's rows. -/
namespace Sw
open PySem PySem.Spec PyProof.Rows L2
/-- a row that may stand ahead of the last one -/
def RW (ks : List KR) (cs : List Ch) (h : Str) (bx : List (Str × Str)) (M : Nat) (d : PyData) : Prop := ∀ (hd : Hd) (m k : Nat), hd.nm = h → hd.bx = bx → M ≤ m → k + 1 < m → RowOk ks cs hd m k d
theorem RW.sh {ks : List KR} {cs : List Ch} {h : Str} {bx : List (Str × Str)} {M : Nat} {d : PyData} (r : RW ks cs h bx M d) : RowSh d := (r ⟨h, bx, []⟩ (M + 2) 0 rfl rfl (by omega) (by omega)).sh
theorem DealOk.rw_ {ks : List KR} {cs : List Ch} {h : Str} {bx : List (Str × Str)} {M : Nat} {d : PyData} (r : DealOk ks cs h bx d) : RW ks cs h bx M d := fun hd m k e1 e2 _ e3 => r hd m k e1 e2 e3
theorem ims_split {H : Hp} : ∀ {us : List V} {es : List PyData}, Ims H us es → ∀ n : Nat, Ims H (us.take n) (es.take n) ∧ Ims H (us.drop n) (es.drop n)
  | _, _, .nil, n => by rw [List.take_nil, List.take_nil, List.drop_nil, List.drop_nil]; exact ⟨.nil, .nil⟩
  | _, _, .cons i r, 0 => ⟨.nil, .cons i r⟩
  | _, _, .cons i r, n + 1 => ⟨.cons i (ims_split r n).1, (ims_split r n).2⟩
section
variable {P : Program} {w : World} {K : PySem.W.Frag} {mg : Str → Option Value} {base : Heap}
def spGRows : Sp := fun vs H Q _ => ∃ (f nl : Addr) (kv chv bxv : V) (h : Str) (ks : List KR) (cs : List Ch) (bx : List (Str × Str)) (ws : List Str), vs = [.ref f, kv, chv, .str h, bxv, .ref nl] ∧ RCtx H f kv chv h bxv ks cs bx ∧ H nl = some (.lst (ws.map V.str)) ∧ nl ≠ f ∧ NmOk ws ∧
  ∀ (v : V) (rows : List PyData) (H' : Hp), Go f H H' → Im H' v (.tuple rows) → (∀ hd : Hd, hd.nm = h → hd.bx = bx → hd.rows = rows → RowsOk ks cs hd) → Q v H'
theorem calGRows (T : Txt K mg) : C8.Cal P w K mg base 24 "_law_rows" spGRows [] := by
  have cGTake := calGTake (P := P) (w := w) (base := base) T
  have cGInto := calGInto (P := P) (w := w) (base := base) T
  have cGNewTerm := calGNewTerm (P := P) (w := w) (base := base) T
  have cGDeal := calGDeal (P := P) (w := w) (base := base) T
  refine mkCal (k := 23) T.fGRows scGRows T.glo__law_rows (fun _ _ _ _ _ _ us hl => match us, hl with | [_, _, _, _, _, _], _ => rfl) (fun vs H Q E h => ?_) (fun cdv A outer s H vs Q E hr h => ?_)
  · obtain ⟨f, nl, kv, chv, bxv, h, ks, cs, bx, ws, rfl, _⟩ := h
    rfl
  obtain ⟨f, nl, kv, chv, bxv, h, ks, cs, bx, ws, rfl, rc, hnl, nlf, nm, q⟩ := h
  have hu := hu_of hr
  have hf := rc.fd
  have wl := nm.len
  obtain ⟨ba, bs, rfl, hba, ibs⟩ := rc.ib.tupE
  have nf : ∀ {b : Addr} {us : List V}, H b = some (.tup us) → b ≠ f := fun {b us} e z => by
    obtain ⟨x, y, h1, _⟩ := hf
    rw [← z, e] at h1
    cases h1
  refine ⟨_, PSs.nox (pss_cons (ps_set (i := 6) scGRows.nd rfl (Or.inl rfl) (pe_callTy call_list_of (by rfl) T.free_list (by decide +kernel) (pa_cons (pe_slice sl_list (pv 5) (po_some pe_int) (po_some pe_int)) pa_nil)))
      (pss_cons (ps_set (i := 7) scGRows.nd rfl (Or.inl rfl) (pe_lst pa_nil))
      (pss_cons (ps_set (i := 8) scGRows.nd rfl (Or.inl rfl) (pe_op op_add pe_int (C8.pe_c cGTake hr (by omega) rfl (pa_cons (pv 0) (pa_cons pe_int pa_nil)))))
      (pss_cons (ps_for PassesOwn.never rfl (pi_range1 rfl T.free_range (pa_cons (pe_op op_sub (pv 8) pe_int) pa_nil)) (pg_name (i := 9) scGRows.nd rfl (Or.inl rfl))
        (pss_cons (ps_set (i := 10) scGRows.nd rfl (Or.inl rfl) (C8.pe_c cGTake hr (by omega) rfl (pa_cons (pv 0) (pa_cons pe_int pa_nil))))
          (pss_one (ps_if (pt_cmpR op_lt (pv 10) pe_int (nomark _)) (pss_cons (ps_set (i := 11) scGRows.nd rfl (Or.inl rfl) (C8.pe_c cGNewTerm hr (by omega) rfl (pa_cons (pv 0) (pa_cons (pv 1) (pa_cons (pe_callTy call_list_of (by rfl) T.free_list (by decide +kernel) (pa_cons (pv 4) pa_nil)) (pa_cons pe_str pa_nil))))))
            (pss_one (ps_expr (pe_bm PySem.F.plainAttrs_list PySem.F.slot_list_append PySem.F.type_list_append mt_append (pv 7) (pa_cons (pe_tup (pa_cons pe_str (pa_cons (pv 11) (pa_cons (C8.pe_c cGTake hr (by omega) rfl (pa_cons (pv 0) (pa_cons (pv 8) pa_nil))) pa_nil)))) pa_nil))))) (pss_one (ps_if (pt_cmpR op_eq (pv 10) pe_int (nomark _)) (pss_one (ps_expr (pe_bm PySem.F.plainAttrs_list PySem.F.slot_list_append PySem.F.type_list_append mt_append (pv 7) (pa_cons (pe_ix (ix_listK (K := K) rfl) (pe_lst (pa_cons (pe_tup (pa_cons pe_str pa_nil)) (pa_cons (pe_tup (pa_cons pe_str (pa_cons (C8.pe_c cGTake hr (by omega) rfl (pa_cons (pv 0) (pa_cons (pv 8) pa_nil))) pa_nil))) pa_nil))) (C8.pe_c cGTake hr (by omega) rfl (pa_cons (pv 0) (pa_cons pe_int pa_nil))) (fun _ _ => rfl)) pa_nil)))) (pss_one (ps_expr (pe_bm PySem.F.plainAttrs_list PySem.F.slot_list_append PySem.F.type_list_append mt_append (pv 7) (pa_cons (C8.pe_c cGDeal hr (by omega) rfl (pa_cons (pv 0) (pa_cons (pv 1) (pa_cons (pv 2) (pa_cons (pv 3) (pa_cons (pv 4) (pa_cons (pv 6) pa_nil))))))) pa_nil))))))))))
      (pss_cons (ps_set (i := 12) scGRows.nd rfl (Or.inl rfl) (C8.pe_c cGInto hr (by omega) rfl (pa_cons (pv 2) (pa_cons (pv 3) (pa_cons (pv 4) pa_nil)))))
      (C8.pss_cut (ps_if (PW.pt (pw_and (pt_cmpR op_gt (pe_callB (call_len_seqK (K := K) rfl) (by rfl) T.free_len PySem.boot_len (pa_cons (pv 12) pa_nil)) pe_int (nomark _)) (pw_and1 (pt_cmpR (op_notIn_seqK (K := K) rfl) pe_str (pe_lc (own := [("_law_row", 15)])  rfl scGRows.nd (pi_list (pv 7)) (blkOk_by (N := nGRows) (sc := defScope sGRows) (by decide +kernel)) (fun _ _ _ _ _ => pg_name (i := 15) scGRows.nd rfl (Or.inl rfl)) (fun _ _ _ _ _ => pts_nil) (fun _ _ _ _ _ => pe_ix (ix_tupK (K := K) rfl) (pv 15) pe_int (fun _ _ => rfl))) (by rfl))))) (pss_cons (ps_asg (pe_ix (ix_listK (K := K) rfl) (pv 12) (C8.pe_c cGTake hr (by omega) rfl (pa_cons (pv 0) (pa_cons (pe_callB (call_len_seqK (K := K) rfl) (by rfl) T.free_len PySem.boot_len (pa_cons (pv 12) pa_nil)) pa_nil))) (fun _ _ => rfl)) (pg_tupK (K := K) (n := 2) rfl rfl (pgs_cons (pg_name (i := 13) scGRows.nd rfl (Or.inl rfl)) (pgs_cons (pg_name (i := 14) scGRows.nd rfl (Or.inl rfl)) pgs_nil))))
        (pss_one (ps_expr (pe_bm PySem.F.plainAttrs_list PySem.F.slot_list_insert PySem.F.type_list_insert mt_insert (pv 7) (pa_cons (C8.pe_c cGTake hr (by omega) rfl (pa_cons (pv 0) (pa_cons (pe_op op_add (pe_callB (call_len_seqK (K := K) rfl) (by rfl) T.free_len PySem.boot_len (pa_cons (pv 7) pa_nil)) pe_int) pa_nil))) (pa_cons (pe_tup (pa_cons pe_str (pa_cons (pe_bm PySem.F.plainAttrs_list PySem.F.slot_list_pop PySem.F.type_list_pop mt_popAt (pv 6) (pa_cons pe_int pa_nil)) (pa_cons (pv 13) (pa_cons (pv 14) pa_nil))))) pa_nil)))))) pss_nil)
      (pss_cons (ps_if (pt_cmpR op_gt (C8.pe_c cGTake hr (by omega) rfl (pa_cons (pv 0) (pa_cons pe_int pa_nil))) pe_int (nomark _)) (pss_one (ps_ret (pe_op op_catA (pe_callTy call_tuple_of (by rfl) T.free_tuple (by decide +kernel) (pa_cons (pv 7) pa_nil)) (pe_tup (pa_cons (pe_tup (pa_cons pe_str (pa_cons (C8.pe_c cGTake hr (by omega) rfl (pa_cons (pv 0) (pa_cons (pv 8) pa_nil))) pa_nil))) pa_nil))))) pss_nil)
      (pss_one (ps_ret (pe_op op_catA (pe_callTy call_tuple_of (by rfl) T.free_tuple (by decide +kernel) (pa_cons (pv 7) pa_nil)) (pe_tup (pa_cons (pe_tup (pa_cons pe_str pa_nil)) pa_nil)))))))))))), ?_⟩
  have ce : cutV (ws.map V.str) (some 20) (some 26) = (ws.drop 20).map V.str := by
    unfold cutV
    rw [show (some 20 : Option Int) = some ((20 : Nat) : Int) from rfl, show (some 26 : Option Int) = some ((26 : Nat) : Int) from rfl, HT.sIx_nat, HT.sIx_nat, List.length_map, wl, List.map_drop, List.take_of_length_le (by rw [List.length_drop, List.length_map, wl]; decide)]
    rfl
  refine ⟨_, rfl, _, rfl, _, rfl, nl, _, rfl, SqL.of hnl, fun p0 np0 => ?_⟩
  rw [ce]
  have s0 : Same H (upd H p0 (.lst ((ws.drop 20).map V.str))) := same_new np0 _
  have hp0 : upd H p0 (.lst ((ws.drop 20).map V.str)) p0 = some (.lst ((ws.drop 20).map V.str)) := upd_same
  generalize upd H p0 (.lst ((ws.drop 20).map V.str)) = H0 at s0 hp0
  refine ⟨p0, _, rfl, .inl (SqL.of hp0), fun ml nml0 => ?_⟩
  have nml : H ml = none := by
    cases e : H ml with
    | none => rfl
    | some o => rw [s0 _ _ e] at nml0; cases nml0
  have mlf := hf.ne nml
  have s1 : Same H (upd H0 ml (.lst ((ws.drop 20).map V.str))) := Same.tr s0 (same_new nml0 _)
  have hml1 : upd H0 ml (.lst ((ws.drop 20).map V.str)) ml = some (.lst ((ws.drop 20).map V.str)) := upd_same
  generalize upd H0 ml (.lst ((ws.drop 20).map V.str)) = H1 at s1 hml1
  refine ⟨sz, fun rl nrl1 => ?_⟩
  have nrl : H rl = none := by
    cases e : H rl with
    | none => rfl
    | some o => rw [s1 _ _ e] at nrl1; cases nrl1
  have rlf := hf.ne nrl
  have rlml : rl ≠ ml := fun z => by rw [z, hml1] at nrl1; cases nrl1
  have s2 : Same H (upd H1 rl (.lst [])) := Same.tr s1 (same_new nrl1 _)
  have hml2 : upd H1 rl (.lst []) ml = some (.lst ((ws.drop 20).map V.str)) := by rw [upd_ne (Ne.symm rlml)]; exact hml1
  have hrl2 : upd H1 rl (.lst []) rl = some (.lst []) := upd_same
  generalize upd H1 rl (.lst []) = H2 at s2 hml2 hrl2
  have g2 : Go f H H2 := Go.of hf s2
  refine ⟨_, rfl, f, 10, rfl, g2.2, by decide, by decide, fun r10 H3 r0 r1 g3 => ⟨_, _, rfl, rfl, ?_⟩⟩
  have G3 := g2.tr g3
  obtain ⟨M, hM⟩ : ∃ M : Nat, (1 : Int) + r10 = ((M + 1 : Nat) : Int) := ⟨r10.toNat, by omega⟩
  have M9 : M ≤ 9 := by omega
  -- a push
  have push : ∀ {H' : Hp} {us : List V} {es : List PyData} {marks : List Str} {v : V} {d : PyData}, Go f H H' → H' rl = some (.lst us) → Ims H' us es → H' ml = some (.lst (marks.map V.str)) → Im H' v d →
      Go f H (upd H' rl (.lst (us ++ [v]))) ∧ upd H' rl (.lst (us ++ [v])) rl = some (.lst (us ++ [v])) ∧ Ims (upd H' rl (.lst (us ++ [v]))) (us ++ [v]) (es ++ [d]) ∧ upd H' rl (.lst (us ++ [v])) ml = some (.lst (marks.map V.str)) := fun {H' us es marks v d} g h1 i h2 iv => by
    have tsp : TS H' (upd H' rl (.lst (us ++ [v]))) := ts_lst h1
    refine ⟨⟨fun b o e n => ?_, g.2.put rlf⟩, upd_same, (i.mono tsp).snoc (iv.mono tsp), by rw [upd_ne (Ne.symm rlml)]; exact h2⟩
    rw [upd_ne (fun z => by rw [z, nrl] at e; cases e)]
    exact g.1 b o e n
  have Mt : ((1 : Int) + r10 - 1).toNat = M := by omega
  refine ⟨_, rfl, _, _, rfl, rfl, _, rfl, (by show -(2 ^ 62) ≤ (1 : Int) + r10 - 1; omega), (by show (1 : Int) + r10 - 1 < 2 ^ 62; omega), for_it walk_range (fun i σ H' => (∃ c9 c10 c11, σ = [some (.ref f), some kv, some chv, some (.str h), some (.ref ba), some (.ref nl), some (.ref ml), some (.ref rl), some (.int (1 + r10)), c9, c10, c11, none, none, none, none]) ∧
      Go f H H' ∧ ∃ (us : List V) (es : List PyData) (marks : List Str), H' rl = some (.lst us) ∧ Ims H' us es ∧ H' ml = some (.lst (marks.map V.str)) ∧ es.length = i ∧ (∀ e ∈ es, RW ks cs h bx (M + 1) e) ∧ marks.length ≤ 6 ∧ (marks.length = 6 ∨ ∃ e ∈ es, wrd e = "take"))
    ⟨⟨_, _, _, rfl⟩, G3, [], [], ws.drop 20, g3.at hrl2 rlf, .nil, g3.at hml2 mlf, rfl, fun e he => absurd he List.not_mem_nil, by rw [List.length_drop, wl]; decide, .inl (by rw [List.length_drop, wl])⟩ (fun _ _ _ _ _ => trivial) ?_ ?_⟩
  · rintro i y σ H4 H5 hi ⟨⟨c9, c10, c11, rfl⟩, G4, us, es, marks, hrl, ius, hml, el, eok, m6, mt⟩ ⟨rfl, rfl⟩
    have hiM : i < M := Nat.lt_of_lt_of_le hi (Nat.le_of_eq Mt)
    have usl := ius.length
    -- the end of a turn
    have done : ∀ {H' : Hp} {v : V} {d : PyData} {marks' : List Str} {c10 c11 : Option V}, Go f H H' → H' rl = some (.lst us) → Ims H' us es → H' ml = some (.lst (marks'.map V.str)) → Im H' v d → RW ks cs h bx (M + 1) d → marks'.length ≤ 6 → (marks'.length = 6 ∨ ∃ e ∈ es ++ [d], wrd e = "take") →
        (∃ l xs y, V.ref rl = .ref l ∧ [v] = [y] ∧ H' l = some (.lst xs) ∧ xs.length < sizeLine ∧ ((∃ c9' c10' c11', [some (.ref f), some kv, some chv, some (.str h), some (.ref ba), some (.ref nl), some (.ref ml), some (.ref rl), some (.int (1 + r10)), some (.int (0 + (i : Int))), c10, c11, none, none, none, none] = [some (.ref f), some kv, some chv, some (.str h), some (.ref ba), some (.ref nl), some (.ref ml), some (.ref rl), some (.int (1 + r10)), c9', c10', c11', none, none, none, none]) ∧
          Go f H (upd H' l (.lst (xs ++ [y]))) ∧ ∃ (us : List V) (es : List PyData) (marks : List Str), upd H' l (.lst (xs ++ [y])) rl = some (.lst us) ∧ Ims (upd H' l (.lst (xs ++ [y]))) us es ∧ upd H' l (.lst (xs ++ [y])) ml = some (.lst (marks.map V.str)) ∧ es.length = i + 1 ∧ (∀ e ∈ es, RW ks cs h bx (M + 1) e) ∧ marks.length ≤ 6 ∧ (marks.length = 6 ∨ ∃ e ∈ es, wrd e = "take"))) := fun {H' v d marks' c10 c11} g h1 i1 h2 iv rw_ l1 l2 => by
      obtain ⟨a1, a2, a3, a4⟩ := push g h1 i1 h2 iv
      refine ⟨rl, us, v, rfl, rfl, h1, small1000 (by omega), ⟨_, _, _, rfl⟩, a1, us ++ [v], es ++ [d], marks', a2, a3, a4, by rw [List.length_append, el]; rfl, fun e he => ?_, l1, l2⟩
      rcases List.mem_append.mp he with he | he
      · exact eok e he
      · rw [List.mem_singleton.mp he]; exact rw_
    -- a new term over the boxes
    have mk_ : ∀ {H' : Hp} {l : Addr}, Go f H H' → H' l = none → TCtx (upd H' l (.lst bs)) f kv l ks bx 2 ∧ Go f H (upd H' l (.lst bs)) := fun {H' l} g n => by
      have s : Same H' (upd H' l (.lst bs)) := same_new n _
      have g' := g.sm s
      exact ⟨(rc.go g').tc upd_same (ibs.mono (hf.ts g')) (g.2.ne n), g'⟩
    refine ⟨_, rfl, f, 16, rfl, G4.2, by decide, by decide, fun fo H6 fo0 fo1 g6 => ?_⟩
    have G6 := G4.tr g6
    have mtA : ∀ {d : PyData}, marks.length = 6 ∨ ∃ e ∈ es ++ [d], wrd e = "take" := fun {d} => mt.imp id fun ⟨e, he, e2⟩ => ⟨e, List.mem_append_left _ he, e2⟩
    refine ⟨_, rfl, _, _, rfl, rfl, _, rfl, ite2 (fun _ => ?_) (fun _ => ?_)⟩
    · refine ⟨_, rfl, _, rfl, _, rfl, ba, bs, rfl, .inr (SqT.of (G6.at hba (nf hba))), fun l nl7 => ?_⟩
      obtain ⟨tc, G7⟩ := mk_ G6 nl7
      have s67 : Same H6 (upd H6 l (.lst bs)) := same_new nl7 _
      refine ⟨f, l, kv, numK, ks, bx, rfl, tc, .inl rfl, fun v t H8 g8 iv wt => ?_⟩
      have g58 : Go f H5 H8 := (g6.sm s67).tr g8
      refine ⟨_, rfl, .inl ⟨rfl, _, SqL.of (g58.at hrl rlf)⟩, _, rfl, _, rfl, _, rfl, f, _, rfl, g58.2, by omega, by omega, fun j H9 j0 j1 g9 => ⟨sz, fun t2 nt2 => ?_⟩⟩
      have s10 : Same H9 (upd H9 t2 (.tup [.str "if", v, .int j])) := same_new nt2 _
      have gA : Go f H5 (upd H9 t2 (.tup [.str "if", v, .int j])) := (g58.tr g9).sm s10
      have je : (j.toNat : Int) = j := by omega
      refine done (d := .tuple [.str "if", t, .int (j.toNat : Int)]) (G4.tr gA) (gA.at hrl rlf) (ius.mono (G4.2.ts gA)) (gA.at hml mlf) (.tup upd_same (.cons (.str _) (.cons ((iv.mono (g58.2.ts g9)).mono (ts_same s10)) (.cons (by rw [je]; exact .int _) .nil)))) (fun hd m k e1 e2 e3 e4 => .ifr (by rw [e2]; exact wt) (by omega) e4) m6 mtA
    · refine ⟨_, rfl, rfl, _, rfl, ite2 (fun _ => ?_) (fun _ => ?_)⟩
      · refine ⟨_, rfl, .inl ⟨rfl, _, SqL.of (g6.at hrl rlf)⟩, sz, fun t1 nt1 => ?_⟩
        have s7 : Same H6 (upd H6 t1 (.tup [.str "end"])) := same_new nt1 _
        have ht1 : upd H6 t1 (.tup [.str "end"]) t1 = some (.tup [.str "end"]) := upd_same
        have t1f := G6.2.ne nt1
        generalize upd H6 t1 (.tup [.str "end"]) = H7 at s7 ht1
        have g7 : Go f H5 H7 := g6.sm s7
        refine ⟨_, rfl, _, rfl, f, _, rfl, g7.2, by omega, by omega, fun j H8 j0 j1 g8 => ⟨sz, fun t2 nt2 => ?_⟩⟩
        have s9 : Same H8 (upd H8 t2 (.tup [.str "go", .int j])) := same_new nt2 _
        have ht2 : upd H8 t2 (.tup [.str "go", .int j]) t2 = some (.tup [.str "go", .int j]) := upd_same
        have ht1' := s9 _ _ (g8.at ht1 t1f)
        have t2f := (g7.tr g8).2.ne nt2
        generalize upd H8 t2 (.tup [.str "go", .int j]) = H9 at s9 ht2 ht1'
        have g9 : Go f H5 H9 := (g7.tr g8).sm s9
        refine ⟨sz, fun l1 nl1 => ?_⟩
        have s10 : Same H9 (upd H9 l1 (.lst [.ref t1, .ref t2])) := same_new nl1 _
        have hl1 : upd H9 l1 (.lst [.ref t1, .ref t2]) l1 = some (.lst [.ref t1, .ref t2]) := upd_same
        have l1f := g9.2.ne nl1
        generalize upd H9 l1 (.lst [.ref t1, .ref t2]) = H10 at s10 hl1
        have g10 := g9.sm s10
        refine ⟨_, rfl, f, 2, rfl, g10.2, by decide, by decide, fun r2 H11 r20 r21 g11 => ?_⟩
        have gA := g10.tr g11
        have ht1A := g11.at (s10 _ _ ht1') t1f
        have ht2A := g11.at (s10 _ _ ht2) t2f
        have je : (j.toNat : Int) = j := by omega
        by_cases c : r2 = 0
        · refine ⟨l1, _, _, .ref t1, rfl, rfl, SqL.of (g11.at hl1 l1f), by rw [c]; exact at0, ?_⟩
          exact done (d := .tuple [.str "end"]) (G4.tr gA) (gA.at hrl rlf) (ius.mono (G4.2.ts gA)) (gA.at hml mlf) (.tup ht1A (.cons (.str _) .nil)) (fun hd m k e1 e2 e3 e4 => .end_) m6 mtA
        · refine ⟨l1, _, _, .ref t2, rfl, rfl, SqL.of (g11.at hl1 l1f), by rw [show r2 = 1 by omega]; exact at1, ?_⟩
          exact done (d := .tuple [.str "go", .int (j.toNat : Int)]) (G4.tr gA) (gA.at hrl rlf) (ius.mono (G4.2.ts gA)) (gA.at hml mlf) (.tup ht2A (.cons (.str _) (.cons (by rw [je]; exact .int _) .nil))) (fun hd m k e1 e2 e3 e4 => .go (by omega)) m6 mtA
      · refine ⟨_, rfl, .inl ⟨rfl, _, SqL.of (g6.at hrl rlf)⟩, _, rfl, _, rfl, _, rfl, _, rfl, _, rfl, _, rfl, f, ml, kv, chv, .ref ba, h, ks, cs, bx, marks, rfl, rc.go G6, g6.at hml mlf, mlf, by omega, fun v d marks' H7 b7 f7 m7 iv ok mk ml' => ?_⟩
        have gA : Go f H H7 := by
          refine ⟨fun b o e n => b7 _ _ (G6.1 _ _ e n) fun hb => ?_, f7⟩
          simp only [List.mem_cons, List.not_mem_nil, or_false] at hb
          rcases hb with rfl | rfl
          · exact n List.mem_cons_self
          · rw [nml] at e; cases e
        have hrl6 := g6.at hrl rlf
        have hml6 := g6.at hml mlf
        have ts7 : TS H6 H7 := b7.ts fun b hb xs e => by
          simp only [List.mem_cons, List.not_mem_nil, or_false] at hb
          rcases hb with rfl | rfl
          · obtain ⟨x, y, h1, _⟩ := g6.2
            rw [h1] at e
            cases e
          · rw [hml6] at e; cases e
        have hrl7 := b7 _ _ hrl6 (by
          simp only [List.mem_cons, List.not_mem_nil, or_false, not_or]
          exact ⟨rlf, rlml⟩)
        refine done (d := d) gA hrl7 ((ius.mono (G4.2.ts g6)).mono ts7) m7 iv ok.rw_ (by omega) ?_
        rcases mk with rfl | tk
        · exact mtA
        · exact .inr ⟨d, List.mem_append_right _ List.mem_cons_self, tk⟩
  · rintro σ H4 ⟨⟨c9, c10, c11, rfl⟩, G4, us, es, marks, hrl, ius, hml, el, eok, m6, mt⟩
    rw [Mt] at el
    have usl := ius.length
    have rc4 := rc.go G4
    refine ⟨_, rfl, _, rfl, _, rfl, chv, .ref ba, h, cs, bx, rfl, rc4.ic, rc.cl, rc4.ib, rc.bl, fun il ius2 ips H5 s5 nil hil iius iok il25 => ?_⟩
    have G5 := G4.sm s5
    have ilf := G4.2.ne nil
    have hrl5 := s5 _ _ hrl
    have hml5 := s5 _ _ hml
    have ius5 := ius.mono (ts_same s5)
    have iul := iius.length
    rw [List.length_map] at iul
    refine ⟨fun σ' H' => (∃ c9 c10 c11 c12 c13 c14 c15, σ' = [some (.ref f), some kv, some chv, some (.str h), some (.ref ba), some (.ref nl), some (.ref ml), some (.ref rl), some (.int (1 + r10)), c9, c10, c11, c12, c13, c14, c15]) ∧ Go f H H' ∧ ∃ (us : List V) (es : List PyData), H' rl = some (.lst us) ∧ Ims H' us es ∧ M ≤ es.length ∧ es.length ≤ 10 ∧ ∀ e ∈ es, RW ks cs h bx (M + 1) e, ?_, ?_⟩
    · refine ⟨_, rfl, il, _, rfl, .inl (SqL.of hil), _, _, rfl, rfl, _, rfl, ite2 (fun c1 => ?_) (fun _ => iteF ⟨⟨_, _, _, _, _, _, _, rfl⟩, G5, us, es, hrl5, ius5, by omega, by omega, eok⟩)⟩
      have c1' : (0 : Int) < (ius2.length : Int) := of_decide_eq_true c1
      refine ⟨_, rfl, rl, rfl, ⟨_, SqL.of hrl5⟩, fun D nD => ?_⟩
      refine lc_it (walk_list (K := K) (a := rl) (xs := us)) (fun j H' => Same H5 H' ∧ H' D = some (.lst ((es.take j).map fun e => V.str (wrd e)))) ⟨same_new nD _, upd_same⟩ (fun j H' _ hP => SqL.of (hP.1 _ _ hrl5)) ?_ ?_
      · rintro j y H6 H7 hj ⟨s6, hD⟩ ⟨rfl, hy⟩
        obtain ⟨e, he, ie⟩ := ius5.of hy
        obtain ⟨wd, rest, er, _⟩ := (eok e (List.mem_of_getElem? he)).sh
        rw [er] at ie
        obtain ⟨t, v1, vs, rfl, ht, i1, _⟩ := (ie.mono (ts_same s6)).tHead
        cases i1.strE
        refine ⟨rfl, lcYes ?_⟩
        refine ⟨_, rfl, _, _, _, _, rfl, rfl, SqT.of ht, at0, _, hD, small1000 (by rw [List.length_map, List.length_take]; omega), same_upd s6 nD _, ?_⟩
        rw [List.take_succ, he, List.map_append, er]
        exact upd_same
      · rintro H6 ⟨s6, hD⟩
        rw [List.take_of_length_le (by omega)] at hD
        have G6 := G5.sm s6
        have hrl6 := s6 _ _ hrl5
        have hml6 := s6 _ _ hml5
        have hil6 := s6 _ _ hil
        have iius6 := iius.mono (ts_same s6)
        have ius6 := ius5.mono (ts_same s6)
        have fl : (es.map fun e => V.str (wrd e)).all flatV = true := List.all_eq_true.mpr fun z hz => by
          obtain ⟨y, _, rfl⟩ := List.mem_map.mp hz
          rfl
        refine ⟨D, _, rfl, .inl (SqL.of hD), rfl, fl, _, rfl, ite2 (fun c2 => ?_) (fun _ => ⟨⟨_, _, _, _, _, _, _, rfl⟩, G6, us, es, hrl6, ius6, by omega, by omega, eok⟩)⟩
        have m6' : marks.length = 6 := by
          rcases mt with h6 | ⟨e, he, ew⟩
          · exact h6
          · have : inV (.str "take") (es.map fun e => V.str (wrd e)) = true := List.any_eq_true.mpr ⟨V.str (wrd e), List.mem_map_of_mem (f := fun e => V.str (wrd e)) he, by rw [ew]; decide +kernel⟩
            have c2' : (!inV (.str "take") (es.map fun e => V.str (wrd e))) = true := c2
            rw [this] at c2'
            cases c2'
        obtain ⟨mk, mr, hmk⟩ : ∃ a l, marks = a :: l := by
          cases c : marks with
          | nil => rw [c] at m6'; cases m6'
          | cons a l => exact ⟨a, l, rfl⟩
        refine ⟨_, rfl, _, rfl, _, rfl, il, _, rfl, .inl (SqL.of hil6), f, _, rfl, G6.2, by omega, by omega, fun r H7 r0 r1 g7 => ?_⟩
        obtain ⟨p, hp, pin, _⟩ := drawn (l := ips) r0 (by omega)
        obtain ⟨y, hy, iy⟩ := (iius6.mono (G6.2.ts g7)).at (i := r.toNat) (d := partD p) (by rw [List.getElem?_map, hp]; rfl)
        obtain ⟨t, w1, w2, rfl, ht, j1, j2⟩ := iy.t2
        cases j1.strE
        cases j2.strE
        have aty : atI ius2 r = some (.ref t) := by
          have e : r = ((r.toNat : Nat) : Int) := by omega
          rw [e]
          exact atI_nat hy
        refine ⟨il, _, _, _, rfl, rfl, SqL.of (g7.at hil6 ilf), aty, ?_⟩
        refine ⟨_, _, rfl, SqT.of ht, rfl, _, _, rfl, _, _, rfl, rfl, ?_⟩
        have hrl7 := g7.at hrl6 rlf
        have G7 := G6.tr g7
        refine ⟨_, rfl, .inl ⟨rfl, _, SqL.of hrl7⟩, _, rfl, _, rfl, rl, _, rfl, .inl (SqL.of hrl7), _, _, rfl, rfl, f, _, rfl, G7.2, by omega, by omega, fun j H8 j0 j1 g8 => ?_⟩
        have G8 := G7.tr g8
        have g68 := g7.tr g8
        have hml8 : H8 ml = some (.lst ((mk :: mr).map V.str)) := by rw [← hmk]; exact g68.at hml6 mlf
        refine ⟨_, rfl, .inl ⟨rfl, _, SqL.of hml8⟩, ml, _, 0, 0, .str mk, rfl, rfl, hml8, (by decide), (by decide), (by simp [seqIndex?]), rfl, ?_⟩
        have tsp : TS H8 (upd H8 ml (.lst (((mk :: mr).map V.str).eraseIdx 0))) := ts_lst hml8
        have G9 : Go f H (upd H8 ml (.lst (((mk :: mr).map V.str).eraseIdx 0))) := by
          refine ⟨fun b o e n => ?_, G8.2.put mlf⟩
          rw [upd_ne (fun z => by rw [z, nml] at e; cases e)]
          exact G8.1 b o e n
        have hrl9 : upd H8 ml (.lst (((mk :: mr).map V.str).eraseIdx 0)) rl = some (.lst us) := by rw [upd_ne rlml]; exact g8.at hrl7 rlf
        have ius9 := (ius6.mono (G6.2.ts g68)).mono tsp
        generalize upd H8 ml (.lst (((mk :: mr).map V.str).eraseIdx 0)) = H9 at G9 hrl9 ius9
        refine ⟨_, rfl, _, rfl, sz, fun t3 nt3 => ?_⟩
        have s10 : Same H9 (upd H9 t3 (.tup [.str "take", .str mk, .str p.1, .str p.2])) := same_new nt3 _
        have ht3 : upd H9 t3 (.tup [.str "take", .str mk, .str p.1, .str p.2]) t3 = some (.tup [.str "take", .str mk, .str p.1, .str p.2]) := upd_same
        have hrl10 := s10 _ _ hrl9
        have ius10 := ius9.mono (ts_same s10)
        have G10 := G9.sm s10
        refine ⟨rl, us, j, .ref t3, rfl, rfl, hrl10, small1000 (by omega), j0, by omega, ?_⟩
        generalize upd H9 t3 (.tup [.str "take", .str mk, .str p.1, .str p.2]) = H10 at ht3 hrl10 ius10 G10
        have tsq : TS H10 (upd H10 rl (.lst (us.take j.toNat ++ [.ref t3] ++ us.drop j.toNat))) := ts_lst hrl10
        have spl : Ims H10 (us.take j.toNat) (es.take j.toNat) ∧ Ims H10 (us.drop j.toNat) (es.drop j.toNat) := ims_split ius10 _
        obtain ⟨c, cm, cn, ct, cb⟩ := iok p pin
        refine ⟨⟨_, _, _, _, _, _, _, rfl⟩, ⟨fun b o e n => ?_, G10.2.put rlf⟩, _, es.take j.toNat ++ [.tuple [.str "take", .str mk, .str p.1, .str p.2]] ++ es.drop j.toNat, upd_same, ?_, ?_, ?_, fun e he => ?_⟩
        · rw [upd_ne (fun z => by rw [z, nrl] at e; cases e)]
          exact G10.1 b o e n
        · exact ((spl.1.mono tsq).snoc (.tup (tsq _ _ ht3) (.cons (.str _) (.cons (.str _) (.cons (.str _) (.cons (.str _) .nil)))))).append (spl.2.mono tsq)
        · rw [List.length_append, List.length_append, List.length_take, List.length_drop, List.length_singleton]
          omega
        · rw [List.length_append, List.length_append, List.length_take, List.length_drop, List.length_singleton]
          omega
        · rcases List.mem_append.mp he with he | he
          · rcases List.mem_append.mp he with he | he
            · exact eok e (List.mem_of_mem_take he)
            · rw [List.mem_singleton.mp he]
              intro hd m k e1 e2 e3 e4
              rw [← cn]
              exact .take cm (by rw [ct, e1]) (by rw [e2]; exact cb) e4
          · exact eok e (List.mem_of_mem_drop he)
    rintro σ6 H6 ⟨⟨c9', c10', c11', c12', c13', c14', c15', rfl⟩, G6, us, es, hrl, ius, elo, ehi, eok⟩
    have usl := ius.length
    have fin : ∀ {H' : Hp} {v : V} {d : PyData}, Go f H H' → Im H' v (.tuple (es ++ [d])) → (∀ (hd : Hd) (m k : Nat), hd.nm = h → hd.bx = bx → M + 1 ≤ m → RowOk ks cs hd m k d) → Q v H' := fun {H' v d} g i ld => by
      refine q v (es ++ [d]) H' g i fun hd e1 e2 e3 => ?_
      have ln : hd.rows.length = es.length + 1 := by rw [e3, List.length_append]; rfl
      refine ⟨by rw [e3]; exact List.append_ne_nil_of_right_ne_nil _ (List.cons_ne_nil _ _), by omega, fun k r hr => ?_⟩
      rw [e3] at hr
      by_cases c : k < es.length
      · rw [List.getElem?_append_left c] at hr
        exact eok r (List.mem_of_getElem? hr) hd _ k e1 e2 (by omega) (by omega)
      · rw [List.getElem?_append_right (by omega)] at hr
        obtain ⟨hl, e⟩ := List.getElem?_eq_some_iff.mp hr
        rw [List.length_singleton] at hl
        have : r = d := by rw [← e]; simp
        rw [this]
        exact ld hd _ k e1 e2 (by omega)
    -- tuple and tuple
    have cat : ∀ {H' : Hp} {t1 t2 t3 : Addr} {d : PyData}, Go f H H' → H' t1 = some (.tup us) → Ims H' us es → Im H' (.ref t2) d → H' t3 = some (.tup [.ref t2]) → (∀ (hd : Hd) (m k : Nat), hd.nm = h → hd.bx = bx → M + 1 ≤ m → RowOk ks cs hd m k d) →
        us.length + [V.ref t2].length ≤ sizeLine ∧ (us = [] → Q (.ref t3) H') ∧ (us ≠ [] → [V.ref t2] = [] → Q (.ref t1) H') ∧ (us ≠ [] → [V.ref t2] ≠ [] → ∀ p, H' p = none → Q (.ref p) (upd H' p (.tup (us ++ [V.ref t2])))) := fun {H' t1 t2 t3 d} g h1 i1 i2 h3 ld => by
      refine ⟨Nat.le_of_lt (small1000 (by rw [List.length_singleton]; omega)), fun e => ?_, fun _ e => absurd e (List.cons_ne_nil _ _), fun _ _ p np => ?_⟩
      · have ee : es = [] := by rw [e] at usl; exact List.length_eq_zero_iff.mp usl.symm
        refine fin (d := d) g ?_ ld
        rw [ee]
        exact .tup h3 (.cons i2 .nil)
      · have s : Same H' (upd H' p (.tup (us ++ [V.ref t2]))) := same_new np _
        exact fin (d := d) (g.sm s) (.tup upd_same ((i1.mono (ts_same s)).snoc (i2.mono (ts_same s)))) ld
    refine ⟨_, rfl, f, 4, rfl, G6.2, by decide, by decide, fun r7 H7 r70 r71 g7 => ⟨_, _, rfl, rfl, _, rfl, ?_⟩⟩
    have G7 := G6.tr g7
    have hrl7 := g7.at hrl rlf
    have ius7 : Ims H7 us es := ius.mono (G6.2.ts g7)
    refine ite2 (fun _ => ?_) (fun _ => ?_)
    · refine ⟨_, rfl, rl, us, rfl, .inl ⟨SqL.of hrl7, fun t1 nt1 => ?_⟩⟩
      have s8 : Same H7 (upd H7 t1 (.tup us)) := same_new nt1 _
      have ht1 : upd H7 t1 (.tup us) t1 = some (.tup us) := upd_same
      have t1f := G7.2.ne nt1
      generalize upd H7 t1 (.tup us) = H8 at s8 ht1
      have G8 := G7.sm s8
      refine ⟨_, rfl, _, rfl, f, _, rfl, G8.2, by omega, by omega, fun j H9 j0 j1 g9 => ⟨sz, fun t2 nt2 => ?_⟩⟩
      have s10 : Same H9 (upd H9 t2 (.tup [.str "go", .int j])) := same_new nt2 _
      have ht2 : upd H9 t2 (.tup [.str "go", .int j]) t2 = some (.tup [.str "go", .int j]) := upd_same
      generalize upd H9 t2 (.tup [.str "go", .int j]) = H10 at s10 ht2
      refine ⟨sz, fun t3 nt3 => ?_⟩
      have s11 : Same H10 (upd H10 t3 (.tup [.ref t2])) := same_new nt3 _
      have ht3 : upd H10 t3 (.tup [.ref t2]) t3 = some (.tup [.ref t2]) := upd_same
      generalize upd H10 t3 (.tup [.ref t2]) = H11 at s11 ht3
      have s911 := Same.tr s10 s11
      have gA : Go f H7 H11 := ((Go.of G7.2 s8).tr g9).sm s911
      have ht1' := s911 _ _ (g9.at ht1 t1f)
      have je : (j.toNat : Int) = j := by omega
      have C := cat (d := .tuple [.str "go", .int (j.toNat : Int)]) (G7.tr gA) ht1' (ius7.mono (G7.2.ts gA)) (.tup (s11 _ _ ht2) (.cons (.str _) (.cons (by rw [je]; exact .int _) .nil))) ht3 (fun hd m k e1 e2 e3 => .go (by omega))
      exact ⟨t1, t3, us, [.ref t2], rfl, rfl, SqT.of ht1', SqT.of ht3, C⟩
    · refine ⟨_, rfl, rl, us, rfl, .inl ⟨SqL.of hrl7, fun t1 nt1 => ?_⟩⟩
      have s8 : Same H7 (upd H7 t1 (.tup us)) := same_new nt1 _
      have ht1 : upd H7 t1 (.tup us) t1 = some (.tup us) := upd_same
      generalize upd H7 t1 (.tup us) = H8 at s8 ht1
      refine ⟨sz, fun t2 nt2 => ?_⟩
      have s10 : Same H8 (upd H8 t2 (.tup [.str "end"])) := same_new nt2 _
      have ht2 : upd H8 t2 (.tup [.str "end"]) t2 = some (.tup [.str "end"]) := upd_same
      generalize upd H8 t2 (.tup [.str "end"]) = H10 at s10 ht2
      refine ⟨sz, fun t3 nt3 => ?_⟩
      have s11 : Same H10 (upd H10 t3 (.tup [.ref t2])) := same_new nt3 _
      have ht3 : upd H10 t3 (.tup [.ref t2]) t3 = some (.tup [.ref t2]) := upd_same
      generalize upd H10 t3 (.tup [.ref t2]) = H11 at s11 ht3
      have s711 := Same.tr s8 (Same.tr s10 s11)
      have ht1' := (Same.tr s10 s11) _ _ ht1
      have C := cat (d := .tuple [.str "end"]) (G7.sm s711) ht1' (ius7.mono (ts_same s711)) (.tup (s11 _ _ ht2) (.cons (.str _) .nil)) ht3 (fun hd m k e1 e2 e3 => .end_)
      exact ⟨t1, t3, us, [.ref t2], rfl, rfl, SqT.of ht1', SqT.of ht3, C⟩
end
end Sw
set_option Elab.async false
set_option linter.all false
set_option maxRecDepth 100000
set_option maxHeartbeats 4000000
/-! The law's hands, make, value. -/
namespace Sw
open PySem PySem.Spec PyProof.Rows L2
theorem sql_same {K : PySem.W.Frag} {H H' : Hp} {a : Addr} {xs : List V} (h : SqL K H a xs) (s : Same H H') : SqL K H' a xs := h.elim (fun h => .inl (h.elim (fun h => .inl (s _ _ h)) fun ⟨o, h⟩ => .inr ⟨o, s _ _ h⟩)) .inr
theorem mem_nm {hs : List Hd} {l : List Str} {x : Str} (e : hs.map (·.nm) = l) (h : x ∈ l) : ∃ y ∈ hs, y.nm = x := by
  rw [← e] at h
  obtain ⟨y, hy, e2⟩ := List.mem_map.mp h
  exact ⟨y, hy, e2⟩
/-- what a new feed does stays off what was there -/
theorem Go.new {f : Addr} {H H1 H2 : Hp} (s : Same H H1) (n : H f = none) (g : Go f H1 H2) : Same H H2 := fun b o e => g.at (s _ _ e) fun z => by rw [z, n] at e; cases e
section
variable {P : Program} {w : World} {K : PySem.W.Frag} {mg : Str → Option Value} {base : Heap}
def spGHands (K : PySem.W.Frag) : Sp := fun vs H Q _ => ∃ (a nl : Addr) (kv chv : V) (at_ n : Nat) (ns : List Int) (ks : List KR) (cs : List Ch) (ws : List Str), vs = [.ref a, .int (at_ : Int), kv, chv, .int (n : Int), .ref nl] ∧ SqL K H a (ns.map V.int) ∧ ns.length ≤ 63 ∧ at_ ≤ 100 ∧ KsAt H kv ks ∧ KOk ks ∧ Im H chv (.tuple (cs.map Ch.d)) ∧
  cs.map (·.nm) = (ws.drop 12).take cs.length ∧ cs.length ≤ 5 ∧ (∀ c ∈ cs, Kd ks c.kd ∧ c.fr ∈ ws.take n ∧ c.to ∈ ws.take n) ∧ H nl = some (.lst (ws.map V.str)) ∧ NmOk ws ∧ 1 ≤ n ∧ n ≤ 4 ∧
  ∀ (v : V) (m : Make) (H' : Hp), Same H H' → Im H' v m.d → MOk m → m.hs.length ≤ 4 → Q v H'
theorem calGHands (T : Txt K mg) : C8.Cal P w K mg base 25 "_law_hands" (spGHands K) [] := by
  have cGFeed := calGFeed (P := P) (w := w) (base := base) T
  have cGBoxes := calGBoxes (P := P) (w := w) (base := base) T
  have cGRows := calGRows (P := P) (w := w) (base := base) T
  refine mkCal (k := 24) T.fGHands scGHands T.glo__law_hands (fun _ _ _ _ _ _ us hl => match us, hl with | [_, _, _, _, _, _], _ => rfl) (fun vs H Q E h => ?_) (fun cdv A outer s H vs Q E hr h => ?_)
  · obtain ⟨a, nl, kv, chv, at_, n, ns, ks, cs, ws, rfl, _⟩ := h
    rfl
  obtain ⟨a, nl, kv, chv, at_, n, ns, ks, cs, ws, rfl, ha, nsl, atl, ka, ok, ic, cnm, cl5, cok, hnl, nm, n1, n4, q⟩ := h
  have hu := hu_of hr
  have wl := nm.len
  refine ⟨_, PSs.nox (pss_cons (ps_set (i := 6) scGHands.nd rfl (Or.inl rfl) (pe_lst pa_nil))
      (pss_cons (ps_for PassesOwn.never rfl (pi_range1 rfl T.free_range (pa_cons (pv 4) pa_nil)) (pg_name (i := 7) scGHands.nd rfl (Or.inl rfl))
        (pss_cons (ps_set (i := 8) scGHands.nd rfl (Or.inl rfl) (C8.pe_c cGFeed hr (by omega) rfl (pa_cons (pv 0) (pa_cons (pe_op op_add (pv 1) (pv 7)) pa_nil))))
          (pss_cons (ps_set (i := 9) scGHands.nd rfl (Or.inl rfl) (C8.pe_c cGBoxes hr (by omega) rfl (pa_cons (pv 8) (pa_cons (pv 2) (pa_cons (pv 3) (pa_cons (pe_ix (ix_listK (K := K) rfl) (pv 5) (pv 7) (fun _ _ => rfl)) (pa_cons (pv 5) pa_nil)))))))
          (pss_one (ps_expr (pe_bm PySem.F.plainAttrs_list PySem.F.slot_list_append PySem.F.type_list_append mt_append (pv 6) (pa_cons (pe_tup (pa_cons (pe_ix (ix_listK (K := K) rfl) (pv 5) (pv 7) (fun _ _ => rfl)) (pa_cons (pv 9) (pa_cons (C8.pe_c cGRows hr (by omega) rfl (pa_cons (pv 8) (pa_cons (pv 2) (pa_cons (pv 3) (pa_cons (pe_ix (ix_listK (K := K) rfl) (pv 5) (pv 7) (fun _ _ => rfl)) (pa_cons (pv 9) (pa_cons (pv 5) pa_nil))))))) pa_nil)))) pa_nil)))))))
      (pss_one (ps_ret (pe_tup (pa_cons (pv 2) (pa_cons (pv 3) (pa_cons (pe_callTy call_tuple_of (by rfl) T.free_tuple (by decide +kernel) (pa_cons (pv 6) pa_nil)) pa_nil)))))))), ?_⟩
  refine ⟨sz, fun fl nfl => ?_⟩
  have s0 : Same H (upd H fl (.lst [])) := same_new nfl _
  have h0 : upd H fl (.lst []) fl = some (.lst []) := upd_same
  generalize upd H fl (.lst []) = H0 at s0 h0
  refine ⟨_, rfl, _, rfl, by omega, by omega, for_it walk_range (fun i σ H' => (∃ c7 c8 c9, σ = [some (.ref a), some (.int (at_ : Int)), some kv, some chv, some (.int (n : Int)), some (.ref nl), some (.ref fl), c7, c8, c9]) ∧ Same H H' ∧
      ∃ (us : List V) (hs : List Hd), H' fl = some (.lst us) ∧ Ims H' us (hs.map Hd.d) ∧ hs.map (·.nm) = ws.take i ∧ hs.length = i ∧ ∀ h ∈ hs, HandOk ks cs h)
    ⟨⟨_, _, _, rfl⟩, s0, [], [], h0, .nil, rfl, rfl, fun h hh => absurd hh List.not_mem_nil⟩ (fun _ _ _ _ _ => trivial) ?_ ?_⟩
  · rintro i y σ H1 H2 hi ⟨⟨c7, c8, c9, rfl⟩, s1, us, hs, hfl, ius, hnm, hsl, hok⟩ ⟨rfl, rfl⟩
    have hin : i < n := by omega
    have usl := ius.length
    rw [List.length_map] at usl
    have zi : (0 : Int) + (i : Int) = ((i : Nat) : Int) := Int.zero_add _
    have av : [V.ref a, V.int ((at_ : Int) + (0 + (i : Int)))] = [V.ref a, V.int ((at_ + i : Nat) : Int)] := by rw [show (at_ : Int) + (0 + (i : Int)) = ((at_ + i : Nat) : Int) by omega]
    refine ⟨_, rfl, _, rfl, _, rfl, _, _, rfl, rfl, a, ns, at_ + i, av, sql_same ha s1, nsl, by omega, fun f H3 nf s3 fd3 => ?_⟩
    have s13 := Same.tr s1 s3
    have nfH : H f = none := by
      cases e : H f with
      | none => rfl
      | some o => rw [s1 _ _ e] at nf; cases nf
    have flf : fl ≠ f := fun z => by rw [z, nf] at hfl; cases hfl
    have nlf : nl ≠ f := fun z => by rw [← z, hnl] at nfH; cases nfH
    have hnl3 := s13 _ _ hnl
    obtain ⟨x0, hx0⟩ : ∃ x, ws[i]? = some x := ⟨_, List.getElem?_eq_getElem (by omega)⟩
    have ax : atI (ws.map V.str) (0 + (i : Int)) = some (.str x0) := by rw [zi]; exact atI_nat (by rw [List.getElem?_map, hx0]; rfl)
    refine ⟨_, rfl, _, rfl, _, rfl, _, rfl, _, rfl, _, _, _, _, rfl, rfl, SqL.of hnl3, ax, _, rfl, f, nl, kv, chv, x0, ks, cs, ws, rfl, fd3, ka.mono (ts_same s13), ok, ic.mono (ts_same s13), cl5, fun c hc => (cok c hc).1, hnl3, nlf, nm, fun bv bx H4 g4 ib bn bk bl => ?_⟩
    have s4 : Same H H4 := Go.new s13 nfH g4
    have hnl4 := s4 _ _ hnl
    have hfl4 := g4.at (s3 _ _ hfl) flf
    have T4 : TS H2 H4 := TS.trans (ts_same s3) (fd3.ts g4)
    refine ⟨_, rfl, .inl ⟨rfl, _, SqL.of hfl4⟩, _, rfl, _, rfl, _, _, _, _, rfl, rfl, SqL.of hnl4, ax, _, rfl, _, rfl, _, rfl, _, rfl, _, rfl, _, rfl, _, _, _, _, rfl, rfl, SqL.of hnl4, ax, _, rfl, _, rfl, f, nl, kv, chv, bv, x0, ks, cs, bx, ws, rfl, ⟨g4.2, ka.mono (ts_same s4), ok, ic.mono (ts_same s4), cl5, fun c hc => (cok c hc).1, ib, bl, bn, fun p hp => (bk p hp).1, fun p hp => nm.good _ (bk p hp).2⟩, hnl4, nlf, nm, fun rv rows H5 g5 ir rok => ⟨sz, fun t nt => ?_⟩⟩
    have s5 : Same H H5 := Go.new s4 nfH g5
    have hfl5 := g5.at hfl4 flf
    have s6 : Same H5 (upd H5 t (.tup [.str x0, bv, rv])) := same_new nt _
    have ht : upd H5 t (.tup [.str x0, bv, rv]) t = some (.tup [.str x0, bv, rv]) := upd_same
    have hfl6 := s6 _ _ hfl5
    have ius6 := ((ius.mono T4).mono (g4.2.ts g5)).mono (ts_same s6)
    have ib6 := (ib.mono (g4.2.ts g5)).mono (ts_same s6)
    have ir6 := ir.mono (ts_same s6)
    have sA := Same.tr s5 s6
    refine ⟨fl, _, _, rfl, rfl, hfl6, small1000 (by omega), ?_⟩
    generalize upd H5 t (.tup [.str x0, bv, rv]) = H6 at ht hfl6 ius6 ib6 ir6 sA
    have tsp : TS H6 (upd H6 fl (.lst (us ++ [.ref t]))) := ts_lst hfl6
    refine ⟨⟨_, _, _, rfl⟩, same_upd sA nfl _, us ++ [.ref t], hs ++ [⟨x0, bx, rows⟩], upd_same, ?_, ?_, by rw [List.length_append, hsl]; rfl, fun h hh => ?_⟩
    · rw [List.map_append]
      exact (ius6.mono tsp).snoc (.tup (tsp _ _ ht) (.cons (.str _) (.cons (ib6.mono tsp) (.cons (ir6.mono tsp) .nil))))
    · rw [List.map_append, hnm, List.take_succ, hx0]
      rfl
    · rcases List.mem_append.mp hh with hh | hh
      · exact hok h hh
      · rw [List.mem_singleton.mp hh]
        exact ⟨bn, fun p hp => (bk p hp).1, bl, rok ⟨x0, bx, rows⟩ rfl rfl rfl⟩
  · rintro σ H1 ⟨⟨c7, c8, c9, rfl⟩, s1, us, hs, hfl, ius, hnm, hsl, hok⟩
    have hnt : (n : Int).toNat = n := Int.toNat_natCast n
    rw [hnt] at hnm hsl
    refine ⟨_, rfl, _, rfl, _, rfl, fl, us, rfl, .inl ⟨SqL.of hfl, fun t1 nt1 => ⟨sz, fun t2 nt2 => ?_⟩⟩⟩
    have s2 : Same H1 (upd H1 t1 (.tup us)) := same_new nt1 _
    have ht1 : upd H1 t1 (.tup us) t1 = some (.tup us) := upd_same
    have s3 : Same (upd H1 t1 (.tup us)) (upd (upd H1 t1 (.tup us)) t2 (.tup [kv, chv, .ref t1])) := same_new nt2 _
    have s13 := Same.tr s1 (Same.tr s2 s3)
    refine q _ ⟨ks, cs, hs⟩ _ s13 (.tup upd_same (.cons (ka.mono (ts_same s13)) (.cons (ic.mono (ts_same s13)) (.cons (.tup (s3 _ _ ht1) ((ius.mono (ts_same s2)).mono (ts_same s3))) .nil)))) ?_ (by show hs.length ≤ 4; omega)
    exact { ks := ok, cn := by
              show (cs.map (·.nm)).Nodup
              rw [cnm]
              exact ((List.take_sublist _ _).trans (List.drop_sublist _ _)).nodup nm.nod
            cl := by show cs.length ≤ 100; omega
            ck := fun c hc => (cok c hc).1
            cf := fun c hc => ⟨mem_nm hnm (cok c hc).2.1, mem_nm hnm (cok c hc).2.2⟩
            hn := by
              show (hs.map (·.nm)).Nodup
              rw [hnm]
              exact (List.take_sublist _ _).nodup nm.nod
            hl := by show hs.length ≤ 100; omega
            h0 := fun e => by
              have e' : hs = [] := e
              rw [e'] at hsl
              rw [← hsl] at n1
              exact absurd n1 (by decide)
            hd := hok }
def spGMake (K : PySem.W.Frag) : Sp := fun vs H Q _ => ∃ (a nl : Addr) (at_ : Nat) (ns : List Int) (ws : List Str), vs = [.ref a, .int (at_ : Int), .ref nl] ∧ SqL K H a (ns.map V.int) ∧ ns.length ≤ 63 ∧ at_ ≤ 50 ∧ H nl = some (.lst (ws.map V.str)) ∧ NmOk ws ∧
  ∀ (v : V) (m : Make) (H' : Hp), Same H H' → Im H' v m.d → MOk m → m.hs.length ≤ 4 → Q v H'
theorem calGMake (T : Txt K mg) : C8.Cal P w K mg base 26 "_law_make" (spGMake K) [] := by
  have cGFeed := calGFeed (P := P) (w := w) (base := base) T
  have cGTake := calGTake (P := P) (w := w) (base := base) T
  have cGKinds := calGKinds (P := P) (w := w) (base := base) T
  have cGChannels := calGChannels (P := P) (w := w) (base := base) T
  have cGHands := calGHands (P := P) (w := w) (base := base) T
  refine mkCal (k := 25) T.fGMake scGMake T.glo__law_make (fun _ _ _ _ _ _ us hl => match us, hl with | [_, _, _], _ => rfl) (fun vs H Q E h => ?_) (fun cdv A outer s H vs Q E hr h => ?_)
  · obtain ⟨a, nl, at_, ns, ws, rfl, _⟩ := h
    rfl
  obtain ⟨a, nl, at_, ns, ws, rfl, ha, nsl, atl, hnl, nm, q⟩ := h
  have hu := hu_of hr
  refine ⟨_, PSs.nox (pss_cons (ps_set (i := 3) scGMake.nd rfl (Or.inl rfl) (C8.pe_c cGKinds hr (by omega) rfl (pa_cons (C8.pe_c cGFeed hr (by omega) rfl (pa_cons (pv 0) (pa_cons (pv 1) pa_nil))) (pa_cons (pv 2) pa_nil))))
      (pss_cons (ps_set (i := 4) scGMake.nd rfl (Or.inl rfl) (C8.pe_c cGFeed hr (by omega) rfl (pa_cons (pv 0) (pa_cons (pe_op op_add (pv 1) pe_int) pa_nil))))
      (pss_cons (ps_set (i := 5) scGMake.nd rfl (Or.inl rfl) (pe_op op_add pe_int (C8.pe_c cGTake hr (by omega) rfl (pa_cons (pv 4) (pa_cons pe_int pa_nil)))))
      (pss_one (ps_ret (C8.pe_c cGHands hr (by omega) rfl (pa_cons (pv 0) (pa_cons (pe_op op_add (pv 1) pe_int) (pa_cons (pv 3) (pa_cons (C8.pe_c cGChannels hr (by omega) rfl (pa_cons (pv 4) (pa_cons (pv 3) (pa_cons (pv 2) (pa_cons (pv 5) pa_nil))))) (pa_cons (pv 5) (pa_cons (pv 2) pa_nil)))))))))))), ?_⟩
  refine ⟨_, rfl, _, rfl, a, ns, at_, rfl, ha, nsl, by omega, fun f H1 nf s1 fd1 => ?_⟩
  have nlf : nl ≠ f := fun z => by rw [← z, hnl] at nf; cases nf
  refine ⟨_, rfl, f, nl, ws, rfl, fd1, s1 _ _ hnl, nlf, nm, fun kv ks H2 g2 ik ok => ?_⟩
  have s2 : Same H H2 := Go.new s1 nf g2
  have av : [V.ref a, V.int ((at_ : Int) + 1)] = [V.ref a, V.int ((at_ + 1 : Nat) : Int)] := rfl
  refine ⟨_, rfl, _, rfl, _, _, rfl, rfl, a, ns, at_ + 1, av, sql_same ha s2, nsl, by omega, fun f2 H3 nf2 s3 fd3 => ?_⟩
  have s13 := Same.tr s2 s3
  have nf2H : H f2 = none := by
    cases e : H f2 with
    | none => rfl
    | some o => rw [s2 _ _ e] at nf2; cases nf2
  have nlf2 : nl ≠ f2 := fun z => by rw [← z, hnl] at nf2H; cases nf2H
  refine ⟨_, rfl, f2, 4, rfl, fd3, by decide, by decide, fun r H4 r0 r1 g4 => ⟨_, _, rfl, rfl, ?_⟩⟩
  have s4 : Same H H4 := Go.new s13 nf2H g4
  have k4 : KsAt H4 kv ks := (show KsAt H2 kv ks from ik).mono (TS.trans (ts_same s3) (fd3.ts g4))
  obtain ⟨n, hn⟩ : ∃ n : Nat, (1 : Int) + r = ((n : Nat) : Int) := ⟨(1 + r).toNat, by omega⟩
  have av2 : [V.ref f2, kv, V.ref nl, V.int (1 + r)] = [V.ref f2, kv, V.ref nl, V.int (n : Int)] := by rw [hn]
  refine ⟨_, rfl, _, rfl, _, _, rfl, rfl, _, rfl, _, rfl, _, rfl, _, rfl, _, rfl, f2, nl, kv, n, ks, ws, av2, g4.2, k4, ok, s4 _ _ hnl, nlf2, nm, by omega, by omega, fun chv cs H5 g5 ic cnm cl5 cok => ?_⟩
  have s5 : Same H H5 := Go.new s4 nf2H g5
  have av3 : [V.ref a, V.int ((at_ : Int) + 2), kv, chv, V.int (1 + r), V.ref nl] = [V.ref a, V.int ((at_ + 2 : Nat) : Int), kv, chv, V.int (n : Int), V.ref nl] := by rw [hn]; rfl
  exact ⟨_, rfl, _, rfl, a, nl, kv, chv, at_ + 2, n, ns, ks, cs, ws, av3, sql_same ha s5, nsl, by omega, k4.mono (g4.2.ts g5), ok, ic, cnm, cl5, cok, s5 _ _ hnl, nm, by omega, by omega, fun v m H6 s6 im mok hl => q v m H6 (Same.tr s5 s6) im mok hl⟩
def spGValue (n : Nat) : Sp := fun vs H Q _ => ∃ (f : Addr) (kv : V) (k : Str) (ks : List KR) (m : Nat), vs = [.ref f, kv, .str k] ∧ n = m + 1 ∧ Feed H f ∧ KsAt H kv ks ∧ KOk ks ∧ Kn ks m k ∧ ∀ (v : V) (d : PyData) (H' : Hp), Go f H H' → Im H' v d → VOk ks k d → Q v H'
theorem calGValue (T : Txt K mg) : ∀ n, C8.Cal P w K mg base (n + 2) "_law_value" (spGValue n) []
  | 0 => by
    obtain ⟨f, fd, ps, ds, F, h2⟩ := (calF (P := P) (w := w) (base := base) T.fGValue T.glo__law_value (fun _ _ _ _ _ _ us hl => match us, hl with | [_, _, _], _ => rfl) (ps := pGValue)).ex
    exact ⟨f, fd, ps, ds, (F.imp (sp' := spGValue 0) (fun vs H Q E h => by obtain ⟨_, _, _, _, m, _, h0, _⟩ := h; omega)).mono (by omega), h2⟩
  | n + 1 => by
    have cGValue := calGValue T n
    have cGTake := calGTake (P := P) (w := w) (base := base) T
    have cGNumber := calGNumber (P := P) (w := w) (base := base) T
    have cGSortOf := calGSortOf (P := P) (w := w) (base := base) T
    refine mkCal (k := n + 2) T.fGValue scGValue T.glo__law_value (fun _ _ _ _ _ _ us hl => match us, hl with | [_, _, _], _ => rfl) (fun vs H Q E h => ?_) (fun cdv A outer s H vs Q E hr h => ?_)
    · obtain ⟨f, kv, k, ks, m, rfl, _⟩ := h
      rfl
    obtain ⟨f, kv, k, ks, m, rfl, hm, hf, ka, ok, kn, q⟩ := h
    have hu := hu_of hr
    obtain rfl : m = n := by omega
    refine ⟨_, PSs.nox (pss_cons (ps_asg (C8.pe_c cGSortOf hr (by omega) rfl (pa_cons (pv 1) (pa_cons (pv 2) pa_nil))) (pg_tupK (K := K) (n := 2) rfl rfl (pgs_cons (pg_name (i := 3) scGValue.nd rfl (Or.inl rfl)) (pgs_cons (pg_name (i := 4) scGValue.nd rfl (Or.inl rfl)) pgs_nil))))
      (pss_cons (ps_if (pt_cmpR op_eq (pv 3) pe_str (nomark _)) (pss_one (ps_ret (C8.pe_c cGNumber hr (by omega) rfl (pa_cons (pv 0) pa_nil)))) pss_nil)
      (pss_cons (ps_if (pt_cmpR op_eq (pv 3) pe_str (nomark _)) (pss_cons (ps_asg (pe_ix (ix_tupK (K := K) rfl) (pv 4) (C8.pe_c cGTake hr (by omega) rfl (pa_cons (pv 0) (pa_cons (pe_callB (call_len_seqK (K := K) rfl) (by rfl) T.free_len PySem.boot_len (pa_cons (pv 4) pa_nil)) pa_nil))) (fun _ _ => rfl)) (pg_tupK (K := K) (n := 2) rfl rfl (pgs_cons (pg_name (i := 5) scGValue.nd rfl (Or.inl rfl)) (pgs_cons (pg_name (i := 6) scGValue.nd rfl (Or.inl rfl)) pgs_nil))))
        (pss_one (ps_ret (pe_tup (pa_cons (pv 2) (pa_cons (pv 5) (pa_cons (C8.pe_c cGValue hr (by omega) rfl (pa_cons (pv 0) (pa_cons (pv 1) (pa_cons (pv 6) pa_nil)))) pa_nil))))))) pss_nil)
      (pss_one (ps_ret (pe_tup (pa_cons (pv 2) (pa_cons (pe_callTy call_tuple_of (by rfl) T.free_tuple (by decide +kernel) (pa_cons (pe_lc (own := [("_law_name", 7), ("_law_part", 6)])  rfl scGValue.nd (pi_tup (pv 4)) (blkOk_by (N := nGValue) (sc := defScope sGValue) (by decide +kernel)) (fun _ _ _ _ _ => pg_tupK (K := K) (n := 2) rfl rfl (pgs_cons (pg_name (i := 7) scGValue.nd rfl (Or.inl rfl)) (pgs_cons (pg_name (i := 6) scGValue.nd rfl (Or.inl rfl)) pgs_nil))) (fun _ _ _ _ _ => pts_nil) (fun _ _ _ _ _ => C8.pe_c cGValue hr (by omega) rfl (pa_cons (pv 0) (pa_cons (pv 1) (pa_cons (pv 6) pa_nil))))) pa_nil)) pa_nil)))))))), ?_⟩
    refine ⟨_, rfl, _, rfl, kv, k, ks, rfl, ka.e, fun t b xs H1 s1 ht hb ixs => ?_⟩
    refine ⟨_, _, rfl, SqT.of ht, rfl, _, _, rfl, _, _, rfl, rfl, ?_⟩
    have G1 := Go.of hf s1
    have xl := ixs.length
    rw [List.length_map] at xl
    refine ⟨_, rfl, rfl, _, rfl, ite2 (fun c => ?_) (fun c => ?_)⟩
    · have en : sOfK ks k = numK := V.str.inj (of_decide_eq_true c)
      have ek : k = numK := by
        rcases kind_cases ok kn with ⟨e, _⟩ | ⟨r, m', _, _, e, _⟩
        · exact e
        · rw [e] at en
          exact absurd en (sort_num _)
      subst ek
      exact ⟨_, rfl, f, rfl, G1.2, fun z H2 z0 z1 g2 => q _ (.int z) H2 (G1.tr g2) (.int z) (.num z0 z1)⟩
    rcases kind_cases ok kn with ⟨ek, en, _⟩ | ⟨r, m', rfl, hrow, es, ep, hps⟩
    · exact absurd (decide_eq_true (by rw [en]; rfl)) c
    have pl4 := (pOfK_ok ok k).2
    rw [ep] at ixs xl pl4
    have bf : b ≠ f := fun z => by
      obtain ⟨x, y, h1, _⟩ := G1.2
      rw [← z, hb] at h1
      cases h1
    refine ⟨_, rfl, rfl, _, rfl, ite2 (fun c2 => ?_) (fun c2 => ?_)⟩
    · have ea : sOfK ks k = "alt" := V.str.inj (of_decide_eq_true c2)
      obtain ⟨r', p0, l0, hrow', hal, ep0⟩ := alt_ne ok ea
      rw [hrow] at hrow'
      cases hrow'
      rw [ep] at ep0
      have pl0 : 0 < r.ps.length := by rw [ep0]; exact Nat.succ_pos _
      refine ⟨_, rfl, _, rfl, _, rfl, b, _, rfl, .inr (SqT.of hb), f, _, rfl, G1.2, by omega, by omega, fun r0 H2 r00 r01 g2 => ?_⟩
      obtain ⟨p, hp, pin, _⟩ := drawn (l := r.ps) r00 (by omega)
      obtain ⟨y, hy, iy⟩ := (ixs.mono (G1.2.ts g2)).at (i := r0.toNat) (d := partD p) (by rw [List.getElem?_map, hp]; rfl)
      obtain ⟨ta, w1, w2, rfl, hta, j1, j2⟩ := iy.t2
      cases j1.strE
      cases j2.strE
      have ay : atI xs r0 = some (.ref ta) := by
        have e : r0 = ((r0.toNat : Nat) : Int) := by omega
        rw [e]
        exact atI_nat hy
      have G2 := G1.tr g2
      refine ⟨_, _, _, _, rfl, rfl, SqT.of (g2.at hb bf), ay, ?_⟩
      refine ⟨_, _, rfl, SqT.of hta, rfl, _, _, rfl, _, _, rfl, rfl, ?_⟩
      refine ⟨_, rfl, _, rfl, _, rfl, _, rfl, _, rfl, f, kv, p.2, ks, m', rfl, rfl, G2.2, ka.mono (hf.ts G2), ok, hps p pin, fun v d H3 g3 iv vok => ⟨sz, fun t2 nt2 => ?_⟩⟩
      have s4 : Same H3 (upd H3 t2 (.tup [.str k, .str p.1, v])) := same_new nt2 _
      exact q _ (.tuple [.str k, .str p.1, d]) _ ((G2.tr g3).sm s4) (.tup upd_same (.cons (.str _) (.cons (.str _) (.cons (iv.mono (ts_same s4)) .nil)))) (.alt hrow hal pin vok)
    · have hal : r.alt = false := by
        cases c : r.alt with
        | false => rfl
        | true => exact absurd (decide_eq_true (by rw [es, c]; rfl)) c2
      refine ⟨_, rfl, _, rfl, b, rfl, ⟨_, SqT.of hb⟩, fun D nD => ?_⟩
      have Df := G1.2.ne nD
      have nDH : H D = none := by
        cases e : H D with
        | none => rfl
        | some o => rw [s1 _ _ e] at nD; cases nD
      have bD : b ≠ D := fun z => by rw [← z, hb] at nD; cases nD
      refine lc_it (walk_tup (K := K) (a := b) (xs := xs)) (fun i H' => Go f H H' ∧ H' b = some (.tup xs) ∧ TS H1 H' ∧ ∃ (us : List V) (es : List PyData), H' D = some (.lst us) ∧ Ims H' us es ∧ es.length = i ∧ ∀ (j : Nat) (p : Str × Str) (e : PyData), r.ps[j]? = some p → es[j]? = some e → VOk ks p.2 e)
        ⟨G1.sm (same_new nD _), same_new nD _ _ _ hb, ts_same (same_new nD _), [], [], upd_same, .nil, rfl, fun j p e _ h => (by rw [List.getElem?_nil] at h; cases h)⟩ (fun i H' _ hP => SqT.of hP.2.1) ?_ ?_
      · rintro i y H2 H3 hi ⟨G2, hb2, T2, us, es', hD, ius, el, vok⟩ ⟨rfl, hy⟩
        obtain ⟨e, he, ie⟩ := ixs.of hy
        rw [List.getElem?_map] at he
        obtain ⟨p, hp, rfl⟩ := Option.map_eq_some_iff.mp he
        obtain ⟨ta, w1, w2, rfl, hta, j1, j2⟩ := (ie.mono T2).t2
        cases j1.strE
        cases j2.strE
        have pm : p ∈ r.ps := List.mem_of_getElem? hp
        have usl := ius.length
        refine ⟨_, _, rfl, SqT.of hta, rfl, _, _, rfl, _, _, rfl, rfl, rfl, lcYes ?_⟩
        refine ⟨_, rfl, _, rfl, _, rfl, f, kv, p.2, ks, m', rfl, rfl, G2.2, ka.mono (hf.ts G2), ok, hps p pm, fun v d H4 g4 iv vok2 => ?_⟩
        have hD4 := g4.at hD Df
        have G4 := G2.tr g4
        have tsp : TS H4 (upd H4 D (.lst (us ++ [v]))) := ts_lst hD4
        have T4 : TS H3 H4 := G2.2.ts g4
        refine ⟨_, hD4, small1000 (by omega), ⟨fun b' o e n => ?_, G4.2.put Df⟩, ?_, TS.trans T2 (TS.trans T4 tsp), us ++ [v], es' ++ [d], upd_same, ((ius.mono T4).mono tsp).snoc (iv.mono tsp), by rw [List.length_append, el]; rfl, fun j p' e' h1 h2 => ?_⟩
        · rw [upd_ne (fun z => by rw [z, nDH] at e; cases e)]
          exact G4.1 b' o e n
        · rw [upd_ne bD]
          exact g4.at hb2 bf
        · by_cases z : j < es'.length
          · rw [List.getElem?_append_left z] at h2
            exact vok j p' e' h1 h2
          · rw [List.getElem?_append_right (by omega)] at h2
            obtain ⟨hl, e⟩ := List.getElem?_eq_some_iff.mp h2
            rw [List.length_singleton] at hl
            have ji : j = i := by omega
            subst ji
            rw [hp] at h1
            cases h1
            rw [← e]
            simp only [List.getElem_singleton]
            exact vok2
      · rintro H2 ⟨G2, hb2, T2, us, es', hD, ius, el, vok⟩
        refine ⟨D, us, rfl, .inl ⟨SqL.of hD, fun t1 nt1 => ⟨sz, fun t2 nt2 => ?_⟩⟩⟩
        have s3 : Same H2 (upd H2 t1 (.tup us)) := same_new nt1 _
        have ht1 : upd H2 t1 (.tup us) t1 = some (.tup us) := upd_same
        have s4 : Same (upd H2 t1 (.tup us)) (upd (upd H2 t1 (.tup us)) t2 (.tup [.str k, .ref t1])) := same_new nt2 _
        exact q _ (.tuple [.str k, .tuple es']) _ (G2.sm (Same.tr s3 s4)) (.tup upd_same (.cons (.str _) (.cons (.tup (s4 _ _ ht1) ((ius.mono (ts_same s3)).mono (ts_same s4))) .nil))) (.rcd hrow hal (by omega) vok)
end
end Sw
set_option Elab.async false
set_option linter.all false
set_option maxRecDepth 100000
set_option maxHeartbeats 4000000
/-! The law's hands_of, still. -/
namespace Sw
open PySem PySem.Spec PyProof.Rows L2
section
variable {P : Program} {w : World} {K : PySem.W.Frag} {mg : Str → Option Value} {base : Heap}
def spGHandsOf : Sp := fun vs H Q _ => ∃ (mv : V) (m : Make), vs = [mv] ∧ Im H mv m.d ∧ m.hs.length ≤ 100 ∧ ∀ (l : Addr) (H' : Hp), H l = none → Same H H' → H' l = some (.lst ((m.hs.map (·.nm)).map V.str)) → Q (.ref l) H'
theorem calGHandsOf (T : Txt K mg) : C8.Cal P w K mg base 1 "_law_hands_of" spGHandsOf [] := by
  refine mkCal (k := 0) T.fGHandsOf scGHandsOf T.glo__law_hands_of (fun _ _ _ _ _ _ us hl => match us, hl with | [_], _ => rfl) (fun vs H Q E h => ?_) (fun cdv A outer s H vs Q E hr h => ?_)
  · obtain ⟨mv, m, rfl, _⟩ := h
    rfl
  obtain ⟨mv, m, rfl, im, hl, q⟩ := h
  obtain ⟨ma, v1, v2, v3, rfl, hma, i1, i2, i3⟩ := id im.t3
  obtain ⟨ca, zs, rfl, hca, izs⟩ := i3.tupE
  have zl := izs.length
  rw [List.length_map] at zl
  refine ⟨_, PSs.nox (pss_one (ps_ret (pe_lc (own := [("_law_hand", 1)])  rfl scGHandsOf.nd (pi_tup (pe_ix (ix_tupK (K := K) rfl) (pv 0) pe_int (fun _ _ => rfl))) (blkOk_by (N := nGHandsOf) (sc := defScope sGHandsOf) (by decide +kernel)) (fun _ _ _ _ _ => pg_name (i := 1) scGHandsOf.nd rfl (Or.inl rfl)) (fun _ _ _ _ _ => pts_nil) (fun _ _ _ _ _ => pe_ix (ix_tupK (K := K) rfl) (pv 1) pe_int (fun _ _ => rfl))))), ?_⟩
  refine ⟨_, rfl, _, _, _, _, rfl, rfl, SqT.of hma, at2, ca, rfl, ⟨_, SqT.of hca⟩, fun D nD => ?_⟩
  refine lc_it (walk_tup (K := K) (a := ca) (xs := zs)) (fun j H' => Same H H' ∧ H' D = some (.lst (((m.hs.map (·.nm)).take j).map V.str))) ⟨same_new nD _, upd_same⟩ (fun j H' _ hP => SqT.of (hP.1 _ _ hca)) ?_ ?_
  · rintro j y H1 H2 hj ⟨s1, hD⟩ ⟨rfl, hy⟩
    obtain ⟨d, hd, id⟩ := izs.of hy
    rw [List.getElem?_map] at hd
    obtain ⟨h, hh, rfl⟩ := Option.map_eq_some_iff.mp hd
    obtain ⟨t, w1, w2, w3, rfl, ht, k1, _⟩ := (id.mono (ts_same s1)).t3
    cases k1.strE
    refine ⟨rfl, lcYes ?_⟩
    refine ⟨_, rfl, _, _, _, _, rfl, rfl, SqT.of ht, at0, _, hD, small1000 (by rw [List.length_map, List.length_take, List.length_map]; omega), same_upd s1 nD _, ?_⟩
    rw [List.take_succ, List.getElem?_map, hh, List.map_append]
    exact upd_same
  · rintro H1 ⟨s1, hD⟩
    rw [List.take_of_length_le (by rw [List.length_map]; omega)] at hD
    exact q D H1 nD s1 hD
def spGStill (K : PySem.W.Frag) : Sp := fun vs H Q _ => ∃ (mv mv' kv : V) (m : Make) (a : PA) (S : St), vs = [.ref a.p, mv] ∧ HouseAt K H mv' kv m a S ∧ Im H mv m.d ∧ MOk m ∧ SOk m S ∧ ∀ H', Same H H' → Q (.bl true) H'
theorem calGStill (T : Txt K mg) : C8.Cal P w K mg base 3 "_law_still" (spGStill K) [] := by
  have mP_Stand := metPStand (P := P) (w := w) (base := base) T
  have mP_Letters := metPLetters (P := P) (w := w) (base := base) T
  have mP_Still := metPStill (P := P) (w := w) (base := base) T
  refine mkCal (k := 2) T.fGStill scGStill T.glo__law_still (fun _ _ _ _ _ _ us hl => match us, hl with | [_, _], _ => rfl) (fun vs H Q E h => ?_) (fun cdv A outer s H vs Q E hr h => ?_)
  · obtain ⟨mv, mv', kv, m, a, S, rfl, _⟩ := h
    rfl
  obtain ⟨mv, mv', kv, m, a, S, rfl, ho, im, ok, so, q⟩ := h
  have hu := hu_of hr
  obtain ⟨ma, v1, v2, v3, rfl, hma, i1, i2, i3⟩ := id im.t3
  obtain ⟨ca, zs, rfl, hca, izs⟩ := i3.tupE
  have zl := izs.length
  rw [List.length_map] at zl
  refine ⟨_, PSs.nox (pss_cons (ps_for PassesOwn.never rfl (pi_tup (pe_ix (ix_tupK (K := K) rfl) (pv 1) pe_int (fun _ _ => rfl))) (pg_tupK (K := K) (n := 3) rfl rfl (pgs_cons (pg_name (i := 2) scGStill.nd rfl (Or.inl rfl)) (pgs_cons (pg_name (i := 3) scGStill.nd rfl (Or.inl rfl)) (pgs_cons (pg_name (i := 4) scGStill.nd rfl (Or.inl rfl)) pgs_nil))))
        (pss_cons (ps_set (i := 5) scGStill.nd rfl (Or.inl rfl) (pe_ix (ix_tupK (K := K) rfl) (pv 4) (pe_ix (ix_tupK (K := K) rfl) (C8.pe_mt mP_Stand hr (by omega) (pv 0) (pa_cons (pv 2) pa_nil)) pe_int (fun _ _ => rfl)) (fun _ _ => rfl)))
          (pss_one (ps_if (PW.pt (pw_and (pt_cmpR op_ne (pe_ix (ix_tupK (K := K) rfl) (pv 5) pe_int (fun _ _ => rfl)) pe_str (nomark _)) (pw_and1 (PW.pt (pw_or (pt_cmpR op_ne (pe_ix (ix_tupK (K := K) rfl) (pv 5) pe_int (fun _ _ => rfl)) pe_str (nomark _)) (pw_or1 (pt_cmpR (op_neE hr.units0) (C8.pe_mt mP_Letters hr (by omega) (pv 0) (pa_cons (pe_ix (ix_tupK (K := K) rfl) (pv 5) pe_int (fun _ _ => rfl)) pa_nil)) (pe_lst pa_nil) (nomark _)))))))) (pss_one (ps_ret (pe_cmpR op_isBl (C8.pe_mt0 mP_Still hr (by omega) (pv 0)) pe_bl (nomark _)))) pss_nil))))
      (pss_one (ps_ret (pe_cmpR op_isBl (C8.pe_mt0 mP_Still hr (by omega) (pv 0)) pe_bl (nomark _))))), ?_⟩
  refine ⟨_, rfl, _, _, _, _, rfl, rfl, SqT.of hma, at2, ca, rfl, ⟨_, SqT.of hca⟩, for_it (walk_tup (K := K) (a := ca) (xs := zs)) (fun i σ H' => (∃ c2 c3 c4 c5, σ = [some (.ref a.p), some (.ref ma), c2, c3, c4, c5]) ∧ Same H H' ∧ ∀ j h, j < i → m.hs[j]? = some h → waitA h.rows (S.hs h.nm) S.q = true)
    ⟨⟨_, _, _, _, rfl⟩, same_refl, fun j h hj => absurd hj (Nat.not_lt_zero j)⟩ (fun i σ H' _ hP => SqT.of (hP.2.1 _ _ hca)) ?_ ?_⟩
  · rintro i y σ H1 H2 hi ⟨⟨c2, c3, c4, c5, rfl⟩, s1, hw⟩ ⟨rfl, hy⟩
    obtain ⟨d, hd, id⟩ := izs.of hy
    rw [List.getElem?_map] at hd
    obtain ⟨h, hh, rfl⟩ := Option.map_eq_some_iff.mp hd
    have hm : h ∈ m.hs := List.mem_of_getElem? hh
    obtain ⟨ta, w1, w2, w3, rfl, hta, k1, k2, k3⟩ := (id.mono (ts_same s1)).t3
    cases k1.strE
    obtain ⟨ra, xs, rfl, hra, ixs⟩ := k3.tupE
    have hs0 := so.hs h hm
    have hok := ok.hd h hm
    obtain ⟨r, hr0⟩ : ∃ r, h.rows[(S.hs h.nm).at_]? = some r := ⟨_, List.getElem?_eq_getElem hs0.at_⟩
    have rok := hok.rows.2.2 _ _ hr0
    have hrD := getD_of hr0
    have ho1 := ho.same s1
    refine ⟨_, _, rfl, SqT.of hta, rfl, _, _, rfl, _, _, rfl, _, _, rfl, rfl, ?_⟩
    refine ⟨_, rfl, _, rfl, a.p, a.dx, _, rfl, ho1.ob, pf_no _ (by decide +kernel), _, rfl, mv', kv, m, a, S, h, rfl, ho1, ok, hm, fun t d kvs H3 s3 _ _ ht hd bx => ?_⟩
    obtain ⟨v, hv, iv⟩ := (ixs.mono (ts_same s3)).at hr0
    have s13 := Same.tr s1 s3
    have ho3 := ho.same s13
    refine ⟨_, _, _, _, rfl, rfl, SqT.of ht, at0, _, _, _, _, rfl, rfl, SqT.of (s3 _ _ hra), atI_nat hv, ?_⟩
    obtain ⟨wd, rest, er, _⟩ := rok.sh
    have wr : wrd (h.rows.getD (S.hs h.nm).at_ .none) = wd := by rw [hrD, er]; rfl
    have go : waitA h.rows (S.hs h.nm) S.q = false → ∀ H4, Same H H4 → HouseAt K H4 mv' kv m a S ∧ stillA m S = false := fun e H4 s4 => ⟨ho.same s4, by
      unfold stillA
      rw [List.all_eq_false]
      exact ⟨h, hm, by rw [e]; exact Bool.false_ne_true⟩⟩
    have stay : waitA h.rows (S.hs h.nm) S.q = true → ∀ j h', j < i + 1 → m.hs[j]? = some h' → waitA h'.rows (S.hs h'.nm) S.q = true := fun e j h' hj e2 => by
      by_cases c : j = i
      · subst c
        rw [hh] at e2
        cases e2
        exact e
      · exact hw j h' (by omega) e2
    by_cases ne : wd = "end"
    · have wt : waitA h.rows (S.hs h.nm) S.q = true := by
        unfold waitA
        rw [wr, decide_eq_true ne]
        rfl
      rw [er] at iv
      obtain ⟨b, x1, us, rfl, hb, j1, _⟩ := iv.tHead
      cases j1.strE
      refine ⟨_, rfl, _, _, _, _, rfl, rfl, SqT.of hb, at0, rfl, _, rfl, ?_⟩
      refine strNF ne ?_
      refine iteF ?_
      exact ⟨⟨_, _, _, _, rfl⟩, s13, stay wt⟩
    by_cases nt : wd = "take"
    · subst nt
      cases rok with
      | @take l x c hc hto hbx hnx =>
        obtain ⟨b, x1, x2, x3, x4, rfl, hb, j1, j2, j3, j4⟩ := iv.t4
        cases j1.strE
        cases j3.strE
        have wq : waitA h.rows (S.hs h.nm) S.q = (S.q c.nm).isEmpty := by
          unfold waitA
          rw [hrD]
          show (decide (("take" : Str) = "end") || (decide (("take" : Str) = "take") && (S.q c.nm).isEmpty)) = _
          rw [decide_eq_false (by decide +kernel), decide_eq_true rfl]
          rfl
        refine ⟨_, rfl, _, _, _, _, rfl, rfl, SqT.of hb, at0, rfl, _, rfl, ?_⟩
        refine strNT (by decide +kernel) ?_
        refine ⟨_, rfl, _, _, _, _, rfl, rfl, SqT.of hb, at0, rfl, _, rfl, ?_⟩
        refine strNF rfl ?_
        refine ⟨_, rfl, a.p, a.dx, _, rfl, ho3.ob, pf_no _ (by decide +kernel), _, rfl, _, _, _, _, rfl, rfl, SqT.of hb, at2, mv', kv, m, a, S, c, rfl, ho3, ok, hc, fun ll ys H4 s4 _ hll iys => ⟨sz, fun p np => ?_⟩⟩
        have s5 : Same H4 (upd H4 p (.lst [])) := same_new np _
        have s14 := Same.tr s13 (Same.tr s4 s5)
        refine ⟨ll, p, ys, rfl, rfl, SqL.of (s5 _ _ hll), SqL.of upd_same, _, rfl, ?_⟩
        cases hq : S.q c.nm with
        | nil =>
          rw [hq] at iys wq
          cases iys
          refine iteF ?_
          exact ⟨⟨_, _, _, _, rfl⟩, s14, stay wq⟩
        | cons d ds =>
          rw [hq] at iys wq
          obtain ⟨y, us, rfl, _, _⟩ := iys.tail
          refine iteT ?_
          obtain ⟨ho4, st⟩ := go wq _ s14
          refine ⟨_, rfl, a.p, a.dx, _, rfl, ho4.ob, pf_no _ (by decide +kernel), mv', kv, m, a, S, rfl, ho4, ok, so, fun H6 s6 => ?_⟩
          rw [st]
          exact ⟨_, _, rfl, rfl, q _ (Same.tr s14 s6)⟩
      | _ => injection er with z; injection z with z _; injection z with z; exact absurd z (by decide +kernel)
    · have wt : waitA h.rows (S.hs h.nm) S.q = false := by
        unfold waitA
        rw [wr, decide_eq_false ne, decide_eq_false nt]
        rfl
      rw [er] at iv
      obtain ⟨b, x1, us, rfl, hb, j1, _⟩ := iv.tHead
      cases j1.strE
      refine ⟨_, rfl, _, _, _, _, rfl, rfl, SqT.of hb, at0, rfl, _, rfl, ?_⟩
      refine strNT ne ?_
      refine ⟨_, rfl, _, _, _, _, rfl, rfl, SqT.of hb, at0, rfl, _, rfl, ?_⟩
      refine strNT nt ?_
      refine iteT ?_
      obtain ⟨ho4, st⟩ := go wt _ s13
      refine ⟨_, rfl, a.p, a.dx, _, rfl, ho4.ob, pf_no _ (by decide +kernel), mv', kv, m, a, S, rfl, ho4, ok, so, fun H6 s6 => ?_⟩
      rw [st]
      exact ⟨_, _, rfl, rfl, q _ (Same.tr s13 s6)⟩
  · rintro σ H1 ⟨⟨c2, c3, c4, c5, rfl⟩, s1, hw⟩
    have : stillA m S = true := by
      unfold stillA
      rw [List.all_eq_true]
      intro h hm
      obtain ⟨j, hj, ej⟩ := List.mem_iff_getElem.mp hm
      exact hw j h (by omega) (by rw [List.getElem?_eq_getElem hj, ej])
    have ho1 := ho.same s1
    refine ⟨_, rfl, a.p, a.dx, _, rfl, ho1.ob, pf_no _ (by decide +kernel), mv', kv, m, a, S, rfl, ho1, ok, so, fun H2 s2 => ?_⟩
    rw [this]
    exact ⟨_, _, rfl, rfl, q _ (Same.tr s1 s2)⟩
end
end Sw
set_option Elab.async false
set_option linter.all false
set_option maxRecDepth 100000
set_option maxHeartbeats 4000000
/-! Equal states in the heap. -/
namespace Sw
open PySem PySem.Spec PyProof.Rows L2
theorem EqN.up {H : Hp} : ∀ {n : Nat} {x y : V}, EqN H n x y → EqN H (n + 1) x y
  | 0, _, _, h => (show False from h).elim
  | n + 1, x, y, h => by
    rcases h with h | h | h
    · exact .inl h
    · exact .inr (.inl h)
    · refine .inr (.inr ?_)
      rcases h with ⟨a, b, xs, ys, e1, e2, h1, h2, p⟩ | ⟨a, b, xs, ys, e1, e2, h1, h2, p⟩ | ⟨a, b, ks, ls, e1, e2, h1, h2, hl, p⟩
      · exact .inl ⟨a, b, xs, ys, e1, e2, h1, h2, Paired.mapP p fun _ _ h => EqN.up h⟩
      · exact .inr (.inl ⟨a, b, xs, ys, e1, e2, h1, h2, Paired.mapP p fun _ _ h => EqN.up h⟩)
      · exact .inr (.inr ⟨a, b, ks, ls, e1, e2, h1, h2, hl, fun q hq => let ⟨u, hu, h⟩ := p q hq; ⟨u, hu, EqN.up h⟩⟩)
theorem EqN.mono {H : Hp} {n m : Nat} {x y : V} (h : EqN H n x y) (l : n ≤ m) : EqN H m x y := by
  induction l with
  | refl => exact h
  | step _ ih => exact ih.up
theorem EqN.flat {H : Hp} {n : Nat} {x : V} (f : flatB x = true) : EqN H (n + 1) x x := .inl ⟨rfl, f⟩
theorem EqN.tup {H : Hp} {n : Nat} {a b : Addr} {xs ys : List V} (h1 : H a = some (.tup xs)) (h2 : H b = some (.tup ys)) (p : Paired (EqN H n) xs ys) : EqN H (n + 1) (.ref a) (.ref b) := .inr (.inr (.inr (.inl ⟨a, b, xs, ys, rfl, rfl, h1, h2, p⟩)))
theorem EqN.lst {H : Hp} {n : Nat} {a b : Addr} {xs ys : List V} (h1 : H a = some (.lst xs)) (h2 : H b = some (.lst ys)) (p : Paired (EqN H n) xs ys) : EqN H (n + 1) (.ref a) (.ref b) := .inr (.inr (.inl ⟨a, b, xs, ys, rfl, rfl, h1, h2, p⟩))
theorem EqN.dict {H : Hp} {n : Nat} {a b : Addr} {ks ls : List (Key × V)} (h1 : H a = some (.dK ks)) (h2 : H b = some (.dK ls)) (hl : ks.length = ls.length) (p : ∀ p ∈ ks, ∃ u, valV ls p.1 = some u ∧ EqN H n p.2 u) : EqN H (n + 1) (.ref a) (.ref b) := .inr (.inr (.inr (.inr ⟨a, b, ks, ls, rfl, rfl, h1, h2, hl, p⟩)))
theorem paired_ims {H : Hp} {n : Nat} : ∀ {ds : List PyData} {xs ys : List V}, Ims H xs ds → Ims H ys ds → (∀ d ∈ ds, ∀ v u, Im H v d → Im H u d → EqN H n v u) → Paired (EqN H n) xs ys
  | [], _, _, a, b, _ => by cases a; cases b; exact .nil
  | d :: ds, _, _, a, b, h => by
    obtain ⟨v, vs, rfl, iv, ivs⟩ := a.tail
    obtain ⟨u, us, rfl, iu, ius⟩ := b.tail
    exact .cons (h d List.mem_cons_self v u iv iu) (paired_ims ivs ius fun e he => h e (List.mem_cons_of_mem _ he))
theorem paired_ints {H : Hp} {n : Nat} : ∀ ns : List Int, Paired (EqN H (n + 1)) (ns.map V.int) (ns.map V.int)
  | [] => .nil
  | i :: r => .cons (EqN.flat rfl) (paired_ints r)
/-- values of a kind, equal in the heap -/
theorem eqV_val {ks : List KR} (ok : KOk ks) {H : Hp} : ∀ {m : Nat} {k : Str} {d : PyData}, Kn ks m k → VOk ks k d → ∀ v u, Im H v d → Im H u d → EqN H (2 * m + 1) v u := by
  intro m
  induction m with
  | zero =>
    intro k d hk hd v u iv iu
    have := KOk.none0 hk
    subst this
    obtain ⟨i, rfl, _⟩ := hd.numE ok
    cases iv.intE
    cases iu.intE
    exact EqN.flat rfl
  | succ m ih =>
    intro k d hk hd v u iv iu
    rcases kind_cases ok hk with ⟨rfl, _⟩ | ⟨r, m', e, hrow, _, _, hps⟩
    · obtain ⟨i, rfl, _⟩ := hd.numE ok
      cases iv.intE
      cases iu.intE
      exact EqN.flat rfl
    · obtain rfl : m = m' := by omega
      cases hal : r.alt with
      | false =>
        obtain ⟨vs, rfl, vl, vok⟩ := hd.recE ok hrow hal
        obtain ⟨a, v1, v2, rfl, ha, i1, i2⟩ := iv.t2
        obtain ⟨b, u1, u2, rfl, hb, j1, j2⟩ := iu.t2
        cases i1.strE
        cases j1.strE
        obtain ⟨a2, xs, rfl, ha2, ixs⟩ := i2.tupE
        obtain ⟨b2, ys, rfl, hb2, iys⟩ := j2.tupE
        have p := paired_ims (n := 2 * m + 1) ixs iys fun d hd v u iv iu => by
          obtain ⟨i, hi, ei⟩ := List.mem_iff_getElem.mp hd
          have hip : i < r.ps.length := by omega
          have := vok i r.ps[i] d (List.getElem?_eq_getElem hip) (by rw [List.getElem?_eq_getElem hi, ei])
          exact ih (hps _ (List.getElem_mem hip)) this v u iv iu
        exact EqN.tup (n := 2 * m + 2) ha hb (.cons (EqN.flat (n := 2 * m + 1) rfl) (.cons (EqN.tup ha2 hb2 p) .nil))
      | true =>
        obtain ⟨t, k', d', rfl, hm, hv⟩ := hd.altE ok hrow hal
        obtain ⟨a, v1, v2, v3, rfl, ha, i1, i2, i3⟩ := iv.t3
        obtain ⟨b, u1, u2, u3, rfl, hb, j1, j2, j3⟩ := iu.t3
        cases i1.strE
        cases j1.strE
        cases i2.strE
        cases j2.strE
        have e3 := ih (hps _ hm) hv v3 u3 i3 j3
        exact EqN.tup (n := 2 * m + 2) ha hb (.cons (EqN.flat (n := 2 * m + 1) rfl) (.cons (EqN.flat (n := 2 * m + 1) rfl) (.cons e3.up .nil)))
theorem eqV9 {ks : List KR} (ok : KOk ks) {H : Hp} {k : Str} {d : PyData} (hk : Kd ks k) (hd : VOk ks k d) {v u : V} (iv : Im H v d) (iu : Im H u d) : EqN H 9 v u := eqV_val ok (hk.mono ok.len) hd v u iv iu
/-- boxes, equal in the heap -/
theorem eq_boxes {ks : List KR} (ok : KOk ks) {H : Hp} {g : Ctx} (gk : ∀ p ∈ g, Kd ks p.2) (gn : (g.map (·.1)).Nodup) {r : EnvD} (eo : EnvOk ks g r) (nm : r.map (·.1) = g.map (·.1)) {a b : Addr} {kvs lvs : List (Key × V)} (ha : H a = some (.dK kvs)) (hb : H b = some (.dK lvs)) (x : Bx H kvs r) (y : Bx H lvs r) : EqN H 10 (.ref a) (.ref b) := by
  refine EqN.dict ha hb (x.length.trans y.length.symm) fun p hp => ?_
  obtain ⟨i, hi, ei⟩ := List.mem_iff_getElem.mp hp
  have hr : i < r.length := by rw [← x.length]; exact hi
  have pr : ∀ {kvs : List (Key × V)} {r : EnvD}, Bx H kvs r → ∀ i (h1 : i < kvs.length) (h2 : i < r.length), kvs[i].1 = Sum.inr r[i].1 ∧ Im H kvs[i].2 r[i].2 := fun {kvs r} b => by
    unfold Bx at b
    induction b with
    | nil => intro i h1; exact absurd h1 (Nat.not_lt_zero _)
    | @cons p q ps qs h t ih =>
      intro i h1 h2
      cases i with
      | zero => exact h
      | succ i => exact ih i (Nat.lt_of_succ_lt_succ h1) (Nat.lt_of_succ_lt_succ h2)
  obtain ⟨k1, i1⟩ := pr x i hi hr
  rw [ei] at k1 i1
  have hl : lookA r r[i].1 = some r[i].2 := by
    unfold lookA
    have := find_of (fun p : Str × PyData => p.1) (by rw [nm]; exact gn) (l := r) (i := i) (x := r[i]) (List.getElem?_eq_getElem hr)
    rw [this]
    rfl
  obtain ⟨u, hu, iu⟩ := y.get hl
  refine ⟨u, by rw [k1]; exact hu, ?_⟩
  have hg : r[i].1 ∈ g.map (·.1) := by rw [← nm]; exact List.mem_map_of_mem (f := (·.1)) (List.getElem_mem hr)
  obtain ⟨q, hq, eq⟩ := List.mem_map.mp hg
  obtain ⟨d, hd, vd⟩ := eo q hq
  rw [eq] at hd
  rw [hl] at hd
  cases hd
  exact eqV9 ok (gk q hq) vd i1 iu
/-- what a hand tells, a channel holds -/
def HRow (H : Hp) (S : St) (v : V) (h : Hd) : Prop := ∃ t s d l kvs, v = .ref t ∧ H t = some (.tup [.str h.nm, .ref s, .ref l, .int (S.hs h.nm).done]) ∧ H s = some (.tup [.int ((S.hs h.nm).at_ : Int), .ref d]) ∧ H d = some (.dK kvs) ∧ Bx H kvs (S.hs h.nm).held ∧ H l = some (.lst ((S.hs h.nm).notes.map V.int))
def CRow (H : Hp) (S : St) (v : V) (c : Ch) : Prop := ∃ t l xs, v = .ref t ∧ H t = some (.tup [.str c.nm, .ref l]) ∧ H l = some (.lst xs) ∧ Ims H xs (S.q c.nm)
def StateAt (H : Hp) (m : Make) (S : St) (v : V) : Prop := ∃ t l1 l2 us ws, v = .ref t ∧ H t = some (.tup [.ref l1, .ref l2]) ∧ H l1 = some (.lst us) ∧ H l2 = some (.lst ws) ∧ Paired (HRow H S) us m.hs ∧ Paired (CRow H S) ws m.cs
theorem HRow.same {H H' : Hp} {S : St} (s : Same H H') {v : V} {h : Hd} (x : HRow H S v h) : HRow H' S v h := let ⟨t, s', d, l, kvs, e, h1, h2, h3, h4, h5⟩ := x; ⟨t, s', d, l, kvs, e, s _ _ h1, s _ _ h2, s _ _ h3, h4.mono (ts_same s), s _ _ h5⟩
theorem CRow.same {H H' : Hp} {S : St} (s : Same H H') {v : V} {c : Ch} (x : CRow H S v c) : CRow H' S v c := let ⟨t, l, xs, e, h1, h2, h3⟩ := x; ⟨t, l, xs, e, s _ _ h1, s _ _ h2, h3.mono (ts_same s)⟩
theorem StateAt.same {H H' : Hp} {m : Make} {S : St} {v : V} (s : Same H H') (x : StateAt H m S v) : StateAt H' m S v := let ⟨t, l1, l2, us, ws, e, h1, h2, h3, h4, h5⟩ := x; ⟨t, l1, l2, us, ws, e, s _ _ h1, s _ _ h2, s _ _ h3, Paired.mapP h4 fun _ _ h => h.same s, Paired.mapP h5 fun _ _ h => h.same s⟩
theorem paired_by {A B C : Type} {R : A → C → Prop} {S : B → C → Prop} {E : A → B → Prop} : ∀ {xs : List A} {ys : List B} {l : List C}, Paired R xs l → Paired S ys l → (∀ c ∈ l, ∀ x y, R x c → S y c → E x y) → Paired E xs ys
  | _, _, [], a, b, _ => by cases a; cases b; exact .nil
  | _, _, c :: l, a, b, h => by
    cases a with
    | cons h1 t1 =>
      cases b with
      | cons h2 t2 => exact .cons (h c List.mem_cons_self _ _ h1 h2) (paired_by t1 t2 fun e he => h e (List.mem_cons_of_mem _ he))
/-- two tellings of one state are equal -/
theorem StateAt.eq {H : Hp} {m : Make} {S : St} (ok : MOk m) (so : SOk m S) {v u : V} (x : StateAt H m S v) (y : StateAt H m S u) : ∃ n, n ≤ 60 ∧ ((∃ a b xs ys, v = .ref a ∧ u = .ref b ∧ H a = some (.lst xs) ∧ H b = some (.lst ys) ∧ Paired (EqN H n) xs ys) ∨ (∃ a b xs ys, v = .ref a ∧ u = .ref b ∧ H a = some (.tup xs) ∧ H b = some (.tup ys) ∧ Paired (EqN H n) xs ys)) := by
  obtain ⟨t, l1, l2, us, ws, rfl, h1, h2, h3, h4, h5⟩ := x
  obtain ⟨t', l1', l2', us', ws', rfl, k1, k2, k3, k4, k5⟩ := y
  have e1 : Paired (EqN H 13) us us' := paired_by h4 k4 fun h hm v u x y => by
    obtain ⟨t, s', d, l, kvs, rfl, a1, a2, a3, a4, a5⟩ := x
    obtain ⟨t', s'', d', l', kvs', rfl, b1, b2, b3, b4, b5⟩ := y
    have hok := ok.hd h hm
    have hs := so.hs h hm
    have ed := eq_boxes ok.ks hok.bk hok.bn hs.env hs.nm a3 b3 a4 b4
    have es : EqN H 11 (.ref s') (.ref s'') := EqN.tup a2 b2 (.cons (EqN.flat (n := 9) rfl) (.cons ed .nil))
    have el : EqN H 11 (.ref l) (.ref l') := EqN.lst a5 b5 (paired_ints (n := 9) _)
    exact (EqN.tup (n := 11) a1 b1 (.cons (EqN.flat (n := 10) rfl) (.cons es (.cons el (.cons (EqN.flat (n := 10) rfl) .nil))))).up
  have e2 : Paired (EqN H 13) ws ws' := paired_by h5 k5 fun c hc v u x y => by
    obtain ⟨t, l, xs, rfl, a1, a2, a3⟩ := x
    obtain ⟨t', l', xs', rfl, b1, b2, b3⟩ := y
    have el : EqN H 11 (.ref l) (.ref l') := EqN.lst a2 b2 (paired_ims (n := 10) a3 b3 fun d hd v u iv iu => (eqV9 ok.ks (ok.ck c hc) (so.q c hc d hd) iv iu).up)
    exact (EqN.tup (n := 11) a1 b1 (.cons (EqN.flat (n := 10) rfl) (.cons el .nil))).up
  exact ⟨14, by decide, .inr ⟨t, t', _, _, rfl, rfl, h1, k1, .cons (EqN.lst h2 k2 e1) (.cons (EqN.lst h3 k3 e2) .nil)⟩⟩
end Sw
set_option Elab.async false
set_option linter.all false
set_option maxRecDepth 100000
set_option maxHeartbeats 4000000
/-! The law's state. -/
namespace Sw
open PySem PySem.Spec PyProof.Rows L2
/-- .. and none of it lies at x -/
def HRowN (x : Addr) (H : Hp) (S : St) (v : V) (h : Hd) : Prop := ∃ t s d l kvs, v = .ref t ∧ H t = some (.tup [.str h.nm, .ref s, .ref l, .int (S.hs h.nm).done]) ∧ H s = some (.tup [.int ((S.hs h.nm).at_ : Int), .ref d]) ∧ H d = some (.dK kvs) ∧ Bx H kvs (S.hs h.nm).held ∧ H l = some (.lst ((S.hs h.nm).notes.map V.int)) ∧ l ≠ x
def CRowN (x : Addr) (H : Hp) (S : St) (v : V) (c : Ch) : Prop := ∃ t l xs, v = .ref t ∧ H t = some (.tup [.str c.nm, .ref l]) ∧ H l = some (.lst xs) ∧ Ims H xs (S.q c.nm) ∧ l ≠ x
section
variable {x : Addr} {H H' : Hp} {S : St} {v : V} {h : Hd} {c : Ch} {us ws : List V}
theorem HRowN.row (r : HRowN x H S v h) : HRow H S v h := let ⟨t, s, d, l, kvs, e, h1, h2, h3, h4, h5, _⟩ := r; ⟨t, s, d, l, kvs, e, h1, h2, h3, h4, h5⟩
theorem CRowN.row (r : CRowN x H S v c) : CRow H S v c := let ⟨t, l, xs, e, h1, h2, h3, _⟩ := r; ⟨t, l, xs, e, h1, h2, h3⟩
theorem HRowN.same (s : Same H H') (r : HRowN x H S v h) : HRowN x H' S v h := let ⟨t, s', d, l, kvs, e, h1, h2, h3, h4, h5, h6⟩ := r; ⟨t, s', d, l, kvs, e, s _ _ h1, s _ _ h2, s _ _ h3, h4.mono (ts_same s), s _ _ h5, h6⟩
theorem CRowN.same (s : Same H H') (r : CRowN x H S v c) : CRowN x H' S v c := let ⟨t, l, xs, e, h1, h2, h3, h6⟩ := r; ⟨t, l, xs, e, s _ _ h1, s _ _ h2, h3.mono (ts_same s), h6⟩
theorem HRowN.put (e : H x = some (.lst us)) (r : HRowN x H S v h) : HRowN x (upd H x (.lst ws)) S v h := by
  obtain ⟨t, s', d, l, kvs, ev, h1, h2, h3, h4, h5, h6⟩ := r
  have k : ∀ {b : Addr} {o : HO}, H b = some o → (∀ ys, o ≠ .lst ys) → upd H x (.lst ws) b = some o := fun {b o} hb n => by
    rw [upd_ne (fun z => by rw [z, e] at hb; cases hb; exact n _ rfl)]
    exact hb
  exact ⟨t, s', d, l, kvs, ev, k h1 (fun _ z => by cases z), k h2 (fun _ z => by cases z), k h3 (fun _ z => by cases z), h4.mono (ts_lst e), by rw [upd_ne h6]; exact h5, h6⟩
theorem CRowN.put (e : H x = some (.lst us)) (r : CRowN x H S v c) : CRowN x (upd H x (.lst ws)) S v c := by
  obtain ⟨t, l, xs, ev, h1, h2, h3, h6⟩ := r
  exact ⟨t, l, xs, ev, by rw [upd_ne (fun z => by rw [z, e] at h1; cases h1)]; exact h1, by rw [upd_ne h6]; exact h2, h3.mono (ts_lst e), h6⟩
end
section
variable {P : Program} {w : World} {K : PySem.W.Frag} {mg : Str → Option Value} {base : Heap}
def spGState (K : PySem.W.Frag) : Sp := fun vs H Q _ => ∃ (mv mv' kv : V) (m : Make) (a : PA) (S : St), vs = [.ref a.p, mv] ∧ HouseAt K H mv' kv m a S ∧ Im H mv m.d ∧ MOk m ∧ ∀ (v : V) (H' : Hp), Same H H' → StateAt H' m S v → Q v H'
theorem calGState (T : Txt K mg) : C8.Cal P w K mg base 3 "_law_state" (spGState K) [] := by
  have cGHandsOf := calGHandsOf (P := P) (w := w) (base := base) T
  have mP_Stand := metPStand (P := P) (w := w) (base := base) T
  have mP_Told := metPTold (P := P) (w := w) (base := base) T
  have mP_Count := metPCount (P := P) (w := w) (base := base) T
  have mP_Letters := metPLetters (P := P) (w := w) (base := base) T
  refine mkCal (k := 2) T.fGState scGState T.glo__law_state (fun _ _ _ _ _ _ us hl => match us, hl with | [_, _], _ => rfl) (fun vs H Q E h => ?_) (fun cdv A outer s H vs Q E hr h => ?_)
  · obtain ⟨mv, mv', kv, m, a, S, rfl, _⟩ := h
    rfl
  obtain ⟨mv, mv', kv, m, a, S, rfl, ho, im, ok, q⟩ := h
  have hu := hu_of hr
  obtain ⟨ma, v1, v2, v3, rfl, hma, i1, i2, i3⟩ := id im.t3
  obtain ⟨ca, zs, rfl, hca, izs⟩ := i2.tupE
  have zl := izs.length
  rw [List.length_map] at zl
  have hl100 := ok.hl
  have cl100 := ok.cl
  refine ⟨_, PSs.nox (pss_cons (ps_set (i := 2) scGState.nd rfl (Or.inl rfl) (pe_lst pa_nil))
      (pss_cons (ps_for PassesOwn.never rfl (pi_list (C8.pe_c cGHandsOf hr (by omega) rfl (pa_cons (pv 1) pa_nil))) (pg_name (i := 3) scGState.nd rfl (Or.inl rfl))
        (pss_one (ps_expr (pe_bm PySem.F.plainAttrs_list PySem.F.slot_list_append PySem.F.type_list_append mt_append (pv 2) (pa_cons (pe_tup (pa_cons (pv 3) (pa_cons (C8.pe_mt mP_Stand hr (by omega) (pv 0) (pa_cons (pv 3) pa_nil)) (pa_cons (C8.pe_mt mP_Told hr (by omega) (pv 0) (pa_cons (pv 3) pa_nil)) (pa_cons (C8.pe_mt mP_Count hr (by omega) (pv 0) (pa_cons (pv 3) pa_nil)) pa_nil))))) pa_nil)))))
      (pss_one (ps_ret (pe_tup (pa_cons (pv 2) (pa_cons (pe_lc (own := [("_law_channel", 4)])  rfl scGState.nd (pi_tup (pe_ix (ix_tupK (K := K) rfl) (pv 1) pe_int (fun _ _ => rfl))) (blkOk_by (N := nGState) (sc := defScope sGState) (by decide +kernel)) (fun _ _ _ _ _ => pg_name (i := 4) scGState.nd rfl (Or.inl rfl)) (fun _ _ _ _ _ => pts_nil) (fun _ _ _ _ _ => pe_tup (pa_cons (pe_ix (ix_tupK (K := K) rfl) (pv 4) pe_int (fun _ _ => rfl)) (pa_cons (C8.pe_mt mP_Letters hr (by omega) (pv 0) (pa_cons (pe_ix (ix_tupK (K := K) rfl) (pv 4) pe_int (fun _ _ => rfl)) pa_nil)) pa_nil)))) pa_nil))))))), ?_⟩
  refine ⟨sz, fun fl nfl => ?_⟩
  have s0 : Same H (upd H fl (.lst [])) := same_new nfl _
  have h0 : upd H fl (.lst []) fl = some (.lst []) := upd_same
  generalize upd H fl (.lst []) = H0 at s0 h0
  refine ⟨_, rfl, .ref ma, m, rfl, im.mono (ts_same s0), hl100, fun hl H1 nhl s1 hhl => ?_⟩
  have s01 := Same.tr s0 s1
  have fhl : fl ≠ hl := fun z => by rw [← z, h0] at nhl; cases nhl
  refine ⟨hl, rfl, ⟨_, SqL.of hhl⟩, for_it (walk_list (K := K) (a := hl) (xs := (m.hs.map (·.nm)).map V.str)) (fun i σ H' => (∃ c3 c4, σ = [some (.ref a.p), some (.ref ma), some (.ref fl), c3, c4]) ∧ Same H H' ∧ H' hl = some (.lst ((m.hs.map (·.nm)).map V.str)) ∧ ∃ us, H' fl = some (.lst us) ∧ Paired (HRowN fl H' S) us (m.hs.take i))
    ⟨⟨_, _, rfl⟩, s01, hhl, [], s1 _ _ h0, .nil⟩ (fun i σ H' _ hP => SqL.of hP.2.2.1) ?_ ?_⟩
  · rintro i y σ H2 H3 hi ⟨⟨c3, c4, rfl⟩, s2, hhl2, us, hfl, pr⟩ ⟨rfl, hy⟩
    rw [List.getElem?_map] at hy
    obtain ⟨nm0, hn, rfl⟩ := Option.map_eq_some_iff.mp hy
    rw [List.getElem?_map] at hn
    obtain ⟨h, hh, rfl⟩ := Option.map_eq_some_iff.mp hn
    have hm : h ∈ m.hs := List.mem_of_getElem? hh
    have usl := Paired.length pr
    rw [List.length_take] at usl
    have ho2 := ho.same s2
    refine ⟨_, rfl, .inl ⟨rfl, _, SqL.of hfl⟩, _, rfl, _, rfl, a.p, a.dx, _, rfl, ho2.ob, pf_no _ (by decide +kernel), _, rfl, mv', kv, m, a, S, h, rfl, ho2, ok, hm, fun t d kvs H4 s4 _ _ ht hd bx => ?_⟩
    have ho4 := ho2.same s4
    refine ⟨_, rfl, a.p, a.dx, _, rfl, ho4.ob, pf_no _ (by decide +kernel), _, rfl, mv', kv, m, a, S, h, rfl, ho4, ok, hm, fun l H5 s5 nl hl5 => ?_⟩
    have ho5 := ho4.same s5
    refine ⟨_, rfl, a.p, a.dx, _, rfl, ho5.ob, pf_no _ (by decide +kernel), _, rfl, mv', kv, m, a, S, h, rfl, ho5, ok, hm, sz, fun t2 nt2 => ?_⟩
    have s6 : Same H5 (upd H5 t2 (.tup [.str h.nm, .ref t, .ref l, .int (S.hs h.nm).done])) := same_new nt2 _
    have ht2 : upd H5 t2 (.tup [.str h.nm, .ref t, .ref l, .int (S.hs h.nm).done]) t2 = some (.tup [.str h.nm, .ref t, .ref l, .int (S.hs h.nm).done]) := upd_same
    have s36 := Same.tr s4 (Same.tr s5 s6)
    have s46 := Same.tr s5 s6
    have lfl : l ≠ fl := fun z => by rw [z, s4 _ _ hfl] at nl; cases nl
    have new : HRowN fl (upd H5 t2 (.tup [.str h.nm, .ref t, .ref l, .int (S.hs h.nm).done])) S (.ref t2) h := ⟨t2, t, d, l, kvs, rfl, ht2, s46 _ _ ht, s46 _ _ hd, bx.mono (ts_same s46), s6 _ _ hl5, lfl⟩
    refine ⟨fl, us, .ref t2, rfl, rfl, s36 _ _ hfl, small1000 (by omega), ?_⟩
    generalize upd H5 t2 (.tup [.str h.nm, .ref t, .ref l, .int (S.hs h.nm).done]) = H6 at s36 new
    have hfl6 := s36 _ _ hfl
    refine ⟨⟨_, _, rfl⟩, same_upd (Same.tr s2 s36) nfl _, by rw [upd_ne (Ne.symm fhl)]; exact s36 _ _ hhl2, us ++ [.ref t2], upd_same, ?_⟩
    rw [List.take_succ, hh]
    exact Paired.snoc (Paired.mapP pr fun _ _ r => (r.same s36).put hfl6) (new.put hfl6)
  · rintro σ H2 ⟨⟨c3, c4, rfl⟩, s2, hhl2, us, hfl, pr⟩
    rw [List.take_of_length_le (by rw [List.length_map, List.length_map]; exact Nat.le_refl _)] at pr
    refine ⟨_, rfl, _, rfl, _, _, _, _, rfl, rfl, SqT.of (s2 _ _ hma), at1, ca, rfl, ⟨_, SqT.of (s2 _ _ hca)⟩, fun D nD => ?_⟩
    refine lc_it (walk_tup (K := K) (a := ca) (xs := zs)) (fun i H' => Same H2 H' ∧ ∃ ws, H' D = some (.lst ws) ∧ Paired (CRowN D H' S) ws (m.cs.take i)) ⟨same_new nD _, [], upd_same, .nil⟩ (fun i H' _ hP => SqT.of (hP.1 _ _ (s2 _ _ hca))) ?_ ?_
    · rintro i y H3 H4 hi ⟨s3, ws, hD, pw⟩ ⟨rfl, hy⟩
      have s23 := Same.tr s2 s3
      obtain ⟨e, he, ie⟩ := izs.of hy
      rw [List.getElem?_map] at he
      obtain ⟨c, hc, rfl⟩ := Option.map_eq_some_iff.mp he
      have cm : c ∈ m.cs := List.mem_of_getElem? hc
      obtain ⟨ta, w1, w2, w3, w4, rfl, hta, g1, _, _, _⟩ := (ie.mono (ts_same s23)).t4
      cases g1.strE
      have ho3 := ho.same s23
      have wsl := Paired.length pw
      rw [List.length_take] at wsl
      refine ⟨rfl, lcYes ?_⟩
      refine ⟨_, rfl, _, _, _, _, rfl, rfl, SqT.of hta, at0, _, rfl, a.p, a.dx, _, rfl, ho3.ob, pf_no _ (by decide +kernel), _, rfl, _, _, _, _, rfl, rfl, SqT.of hta, at0, mv', kv, m, a, S, c, rfl, ho3, ok, cm, fun l xs H5 s5 nl hl5 ixs => ⟨sz, fun t2 nt2 => ?_⟩⟩
      have s6 : Same H5 (upd H5 t2 (.tup [.str c.nm, .ref l])) := same_new nt2 _
      have ht2 : upd H5 t2 (.tup [.str c.nm, .ref l]) t2 = some (.tup [.str c.nm, .ref l]) := upd_same
      have s46 := Same.tr s5 s6
      have lD : l ≠ D := fun z => by rw [z, hD] at nl; cases nl
      have new : CRowN D (upd H5 t2 (.tup [.str c.nm, .ref l])) S (.ref t2) c := ⟨t2, l, xs, rfl, ht2, s6 _ _ hl5, ixs.mono (ts_same s6), lD⟩
      generalize upd H5 t2 (.tup [.str c.nm, .ref l]) = H6 at s46 new
      have hD6 := s46 _ _ hD
      refine ⟨_, hD6, small1000 (by omega), same_upd (Same.tr s3 s46) nD _, _, upd_same, ?_⟩
      rw [List.take_succ, hc]
      exact Paired.snoc (Paired.mapP pw fun _ _ r => (r.same s46).put hD6) (new.put hD6)
    · rintro H3 ⟨s3, ws, hD, pw⟩
      rw [List.take_of_length_le (by omega)] at pw
      refine ⟨sz, fun t nt => ?_⟩
      have s4 : Same H3 (upd H3 t (.tup [.ref fl, .ref D])) := same_new nt _
      exact q _ _ (Same.tr s2 (Same.tr s3 s4)) ⟨t, fl, D, us, ws, rfl, upd_same, (Same.tr s3 s4) _ _ hfl, s4 _ _ hD, Paired.mapP pr fun _ _ r => (r.row.same (Same.tr s3 s4)), Paired.mapP pw fun _ _ r => r.row.same s4⟩
end
end Sw
set_option Elab.async false
set_option linter.all false
set_option maxRecDepth 100000
set_option maxHeartbeats 4000000
/-! The four dicts of the law. -/
namespace Sw
open PySem PySem.Spec PyProof.Rows L2
structure PX where
  l : Addr
  d0 : Addr
  d1 : Addr
  d2 : Addr
  d3 : Addr
  ts : Str → Addr
  td : Str → Addr
  tl : Str → Addr
  cl : Str → Addr
structure D0 (Hb H : Hp) (hs : List Hd) (x : PX) (S : St) : Prop where
  d : H x.d0 = some (.dK (lnD (hs.map fun h => (h.nm, x.ts h.nm))))
  e : ∀ h ∈ hs, H (x.ts h.nm) = some (.tup [.int ((S.hs h.nm).at_ : Int), .ref (x.td h.nm)]) ∧ (∃ kvs, H (x.td h.nm) = some (.dK kvs) ∧ Bx H kvs (S.hs h.nm).held) ∧ x.td h.nm ∉ [x.d0, x.d1, x.d2, x.d3] ∧ Hb (x.td h.nm) = none
structure D1 (Hb H : Hp) (cs : List Ch) (x : PX) (S : St) : Prop where
  d : H x.d1 = some (.dK (lnD (cs.map fun c => (c.nm, x.cl c.nm))))
  e : ∀ c ∈ cs, (∃ xs, H (x.cl c.nm) = some (.lst xs) ∧ Ims H xs (S.q c.nm)) ∧ x.cl c.nm ≠ x.l ∧ Hb (x.cl c.nm) = none
structure D2 (Hb H : Hp) (hs : List Hd) (x : PX) (S : St) : Prop where
  d : H x.d2 = some (.dK (lnD (hs.map fun h => (h.nm, x.tl h.nm))))
  e : ∀ h ∈ hs, H (x.tl h.nm) = some (.lst ((S.hs h.nm).notes.map V.int)) ∧ x.tl h.nm ≠ x.l ∧ Hb (x.tl h.nm) = none
def inD (hs : List Hd) (S : St) : List (Key × V) := hs.map fun h => ((Sum.inr h.nm : Key), V.int (S.hs h.nm).done)
/-- the four dicts stand apart -/
structure Dist (x : PX) : Prop where
  n01 : x.d0 ≠ x.d1
  n02 : x.d0 ≠ x.d2
  n03 : x.d0 ≠ x.d3
  n12 : x.d1 ≠ x.d2
  n13 : x.d1 ≠ x.d3
  n23 : x.d2 ≠ x.d3
structure PartsG (Hb H : Hp) (hs : List Hd) (cs : List Ch) (x : PX) (S : St) : Prop where
  l : H x.l = some (.lst [.ref x.d0, .ref x.d1, .ref x.d2, .ref x.d3])
  p0 : D0 Hb H hs x S
  p1 : D1 Hb H cs x S
  p2 : D2 Hb H hs x S
  p3 : H x.d3 = some (.dK (inD hs S))
  ne : Dist x
  fr : ∀ b ∈ [x.l, x.d0, x.d1, x.d2, x.d3], Hb b = none
section
variable {Hb H H' : Hp} {hs : List Hd} {cs : List Ch} {x : PX} {S : St} {y : Addr}
theorem D0.keep (p : D0 Hb H hs x S) (F : ∀ b o, H b = some o → b ≠ y → H' b = some o) {o : HO} (ey : H y = some o) (nt : ∀ us, o ≠ .tup us) (n0 : y ≠ x.d0) (n1 : ∀ h ∈ hs, y ≠ x.td h.nm) : D0 Hb H' hs x S := by
  have ts : TS H H' := fun b us e => F _ _ e fun z => by rw [z, ey] at e; cases e; exact nt _ rfl
  refine ⟨F _ _ p.d (Ne.symm n0), fun h hh => ?_⟩
  obtain ⟨h1, ⟨kvs, h2, h3⟩, h4, h5⟩ := p.e h hh
  exact ⟨ts _ _ h1, ⟨kvs, F _ _ h2 (Ne.symm (n1 h hh)), h3.mono ts⟩, h4, h5⟩
theorem D1.keep (p : D1 Hb H cs x S) (F : ∀ b o, H b = some o → b ≠ y → H' b = some o) {o : HO} (ey : H y = some o) (nt : ∀ us, o ≠ .tup us) (n0 : y ≠ x.d1) (n1 : ∀ c ∈ cs, y ≠ x.cl c.nm) : D1 Hb H' cs x S := by
  have ts : TS H H' := fun b us e => F _ _ e fun z => by rw [z, ey] at e; cases e; exact nt _ rfl
  refine ⟨F _ _ p.d (Ne.symm n0), fun c hc => ?_⟩
  obtain ⟨⟨xs, h1, h2⟩, h4, h5⟩ := p.e c hc
  exact ⟨⟨xs, F _ _ h1 (Ne.symm (n1 c hc)), h2.mono ts⟩, h4, h5⟩
theorem D2.keep (p : D2 Hb H hs x S) (F : ∀ b o, H b = some o → b ≠ y → H' b = some o) (n0 : y ≠ x.d2) (n1 : ∀ h ∈ hs, y ≠ x.tl h.nm) : D2 Hb H' hs x S := by
  refine ⟨F _ _ p.d (Ne.symm n0), fun h hh => ?_⟩
  obtain ⟨h1, h4, h5⟩ := p.e h hh
  exact ⟨F _ _ h1 (Ne.symm (n1 h hh)), h4, h5⟩
theorem D0.same (p : D0 Hb H hs x S) (s : Same H H') : D0 Hb H' hs x S := ⟨s _ _ p.d, fun h hh => let ⟨h1, ⟨kvs, h2, h3⟩, h4, h5⟩ := p.e h hh; ⟨s _ _ h1, ⟨kvs, s _ _ h2, h3.mono (ts_same s)⟩, h4, h5⟩⟩
theorem D1.same (p : D1 Hb H cs x S) (s : Same H H') : D1 Hb H' cs x S := ⟨s _ _ p.d, fun c hc => let ⟨⟨xs, h1, h2⟩, h4, h5⟩ := p.e c hc; ⟨⟨xs, s _ _ h1, h2.mono (ts_same s)⟩, h4, h5⟩⟩
theorem D2.same (p : D2 Hb H hs x S) (s : Same H H') : D2 Hb H' hs x S := ⟨s _ _ p.d, fun h hh => let ⟨h1, h4, h5⟩ := p.e h hh; ⟨s _ _ h1, h4, h5⟩⟩
theorem PartsG.same (p : PartsG Hb H hs cs x S) (s : Same H H') : PartsG Hb H' hs cs x S := ⟨s _ _ p.l, p.p0.same s, p.p1.same s, p.p2.same s, s _ _ p.p3, p.ne, p.fr⟩
/-- a dict isn't a list of the parts -/
theorem D1.nd (p : D1 Hb H cs x S) {o : List (Key × V)} (e : H y = some (.dK o)) : ∀ c ∈ cs, y ≠ x.cl c.nm := fun c hc z => by
  obtain ⟨⟨xs, h1, _⟩, _⟩ := p.e c hc
  rw [← z, e] at h1
  cases h1
theorem D2.nd (p : D2 Hb H hs x S) {o : List (Key × V)} (e : H y = some (.dK o)) : ∀ h ∈ hs, y ≠ x.tl h.nm := fun h hh z => by
  obtain ⟨h1, _⟩ := p.e h hh
  rw [← z, e] at h1
  cases h1
theorem lnD_map {A : Type} {l : List A} {nm : A → Str} {f : A → Addr} {a : A} {b : Addr} (nd : ∀ k ∈ l, nm k ≠ nm a) (e : f a = b) : putK (lnD (l.map fun k => (nm k, f k))) (Sum.inr (nm a) : Key) (.ref b) = lnD ((l ++ [a]).map fun k => (nm k, f k)) := by
  rw [putK_new, lnD, lnD, List.map_append, List.map_append]
  · rw [← e]; rfl
  · exact lnD_none fun z hz => by
      obtain ⟨k, hk, rfl⟩ := List.mem_map.mp hz
      exact nd k hk
/-- a hand's stand is put in -/
theorem PartsG.put0 (p : D0 Hb H hs x S) {h : Hd} (nd : ∀ k ∈ hs, k.nm ≠ h.nm) {S' : St} (eS : ∀ k ∈ hs, S'.hs k.nm = S.hs k.nm) {t d : Addr} {kvs : List (Key × V)} (ht : H t = some (.tup [.int ((S'.hs h.nm).at_ : Int), .ref d])) (hd : H d = some (.dK kvs)) (bx : Bx H kvs (S'.hs h.nm).held) (dn : d ∉ [x.d0, x.d1, x.d2, x.d3]) (df : Hb d = none) :
    D0 Hb (upd H x.d0 (.dK (putK (lnD (hs.map fun h => (h.nm, x.ts h.nm))) (Sum.inr h.nm : Key) (.ref t)))) (hs ++ [h]) { x with ts := fun n => if n = h.nm then t else x.ts n, td := fun n => if n = h.nm then d else x.td n } S' := by
  have ts : ∀ {o : HO}, TS H (upd H x.d0 o) := fun {o} b us e => by rw [upd_ne (fun z => by rw [z, p.d] at e; cases e)]; exact e
  have e0 : lnD (hs.map fun k => (k.nm, x.ts k.nm)) = lnD (hs.map fun k => (k.nm, (fun k : Hd => if k.nm = h.nm then t else x.ts k.nm) k)) := by
    congr 1
    exact List.map_congr_left fun k hk => by simp only [if_neg (nd k hk)]
  refine ⟨?_, fun k hk => ?_⟩
  · show upd H x.d0 _ x.d0 = _
    rw [upd_same, e0, lnD_map (nm := fun k : Hd => k.nm) (f := fun k : Hd => if k.nm = h.nm then t else x.ts k.nm) nd (if_pos rfl)]
  · rcases List.mem_append.mp hk with hk | hk
    · obtain ⟨h1, ⟨kvs, h2, h3⟩, h4, h5⟩ := p.e k hk
      simp only [if_neg (nd k hk), eS k hk]
      exact ⟨ts _ _ h1, ⟨kvs, by rw [upd_ne (fun z => h4 (by rw [z]; simp))]; exact h2, h3.mono ts⟩, h4, h5⟩
    · obtain rfl := List.mem_singleton.mp hk
      simp only [if_pos]
      exact ⟨ts _ _ ht, ⟨kvs, by rw [upd_ne (fun z => dn (by rw [z]; simp))]; exact hd, bx.mono ts⟩, dn, df⟩
theorem PartsG.put2 (p : D2 Hb H hs x S) {h : Hd} (nd : ∀ k ∈ hs, k.nm ≠ h.nm) {S' : St} (eS : ∀ k ∈ hs, S'.hs k.nm = S.hs k.nm) {t : Addr} (ht : H t = some (.lst ((S'.hs h.nm).notes.map V.int))) (dn : t ≠ x.l) (df : Hb t = none) :
    D2 Hb (upd H x.d2 (.dK (putK (lnD (hs.map fun h => (h.nm, x.tl h.nm))) (Sum.inr h.nm : Key) (.ref t)))) (hs ++ [h]) { x with tl := fun n => if n = h.nm then t else x.tl n } S' := by
  have e0 : lnD (hs.map fun k => (k.nm, x.tl k.nm)) = lnD (hs.map fun k => (k.nm, (fun k : Hd => if k.nm = h.nm then t else x.tl k.nm) k)) := by
    congr 1
    exact List.map_congr_left fun k hk => by simp only [if_neg (nd k hk)]
  refine ⟨?_, fun k hk => ?_⟩
  · show upd H x.d2 _ x.d2 = _
    rw [upd_same, e0, lnD_map (nm := fun k : Hd => k.nm) (f := fun k : Hd => if k.nm = h.nm then t else x.tl k.nm) nd (if_pos rfl)]
  · rcases List.mem_append.mp hk with hk | hk
    · obtain ⟨h1, h4, h5⟩ := p.e k hk
      simp only [if_neg (nd k hk), eS k hk]
      exact ⟨by rw [upd_ne (fun z => by rw [z, p.d] at h1; cases h1)]; exact h1, h4, h5⟩
    · obtain rfl := List.mem_singleton.mp hk
      simp only [if_pos]
      exact ⟨by rw [upd_ne (fun z => by rw [z, p.d] at ht; cases ht)]; exact ht, dn, df⟩
theorem PartsG.put1 (p : D1 Hb H cs x S) {c : Ch} (nd : ∀ k ∈ cs, k.nm ≠ c.nm) {S' : St} (eS : ∀ k ∈ cs, S'.q k.nm = S.q k.nm) {t : Addr} {xs : List V} (ht : H t = some (.lst xs)) (ix : Ims H xs (S'.q c.nm)) (dn : t ≠ x.l) (df : Hb t = none) :
    D1 Hb (upd H x.d1 (.dK (putK (lnD (cs.map fun c => (c.nm, x.cl c.nm))) (Sum.inr c.nm : Key) (.ref t)))) (cs ++ [c]) { x with cl := fun n => if n = c.nm then t else x.cl n } S' := by
  have ts : ∀ {o : HO}, TS H (upd H x.d1 o) := fun {o} b us e => by rw [upd_ne (fun z => by rw [z, p.d] at e; cases e)]; exact e
  have e0 : lnD (cs.map fun k => (k.nm, x.cl k.nm)) = lnD (cs.map fun k => (k.nm, (fun k : Ch => if k.nm = c.nm then t else x.cl k.nm) k)) := by
    congr 1
    exact List.map_congr_left fun k hk => by simp only [if_neg (nd k hk)]
  refine ⟨?_, fun k hk => ?_⟩
  · show upd H x.d1 _ x.d1 = _
    rw [upd_same, e0, lnD_map (nm := fun k : Ch => k.nm) (f := fun k : Ch => if k.nm = c.nm then t else x.cl k.nm) nd (if_pos rfl)]
  · rcases List.mem_append.mp hk with hk | hk
    · obtain ⟨⟨ys, h1, h2⟩, h4, h5⟩ := p.e k hk
      simp only [if_neg (nd k hk), eS k hk]
      exact ⟨⟨ys, by rw [upd_ne (fun z => by rw [z, p.d] at h1; cases h1)]; exact h1, h2.mono ts⟩, h4, h5⟩
    · obtain rfl := List.mem_singleton.mp hk
      simp only [if_pos]
      exact ⟨⟨xs, by rw [upd_ne (fun z => by rw [z, p.d] at ht; cases ht)]; exact ht, ix.mono ts⟩, dn, df⟩
theorem inD_put {h : Hd} (nd : ∀ k ∈ hs, k.nm ≠ h.nm) {S' : St} (eS : ∀ k ∈ hs, S'.hs k.nm = S.hs k.nm) : putK (inD hs S) (Sum.inr h.nm : Key) (.int (S'.hs h.nm).done) = inD (hs ++ [h]) S' := by
  have e0 : inD hs S = inD hs S' := List.map_congr_left fun k hk => by rw [eS k hk]
  have nn : valV (inD hs S) (Sum.inr h.nm : Key) = none := by
    clear e0
    unfold inD
    induction hs with
    | nil => rfl
    | cons k r ih =>
      have := ih (fun z hz => nd z (List.mem_cons_of_mem _ hz)) (fun z hz => eS z (List.mem_cons_of_mem _ hz))
      exact (valV_neg (p := ((Sum.inr k.nm : Key), V.int (S.hs k.nm).done)) fun z => nd k List.mem_cons_self (Sum.inr.inj z)).trans this
  rw [putK_new _ nn, e0]
  unfold inD
  rw [List.map_append]
  rfl
end
end Sw
set_option Elab.async false
set_option linter.all false
set_option maxRecDepth 100000
set_option maxHeartbeats 4000000
/-! The law's parts_of. -/
namespace Sw
open PySem PySem.Spec PyProof.Rows L2
theorem at3' {v0 v1 v2 v : V} {vs : List V} : atI (v0 :: v1 :: v2 :: v :: vs) 3 = some v := atI_nat (j := 3) rfl
/-- four new dicts in a new list -/
theorem parts0 {H : Hp} {d0 d1 d2 d3 l : Addr} {S : St} (n0 : H d0 = none) (n1 : upd H d0 (.dK []) d1 = none) (n2 : upd (upd H d0 (.dK [])) d1 (.dK []) d2 = none) (n3 : upd (upd (upd H d0 (.dK [])) d1 (.dK [])) d2 (.dK []) d3 = none)
    (nl : upd (upd (upd (upd H d0 (.dK [])) d1 (.dK [])) d2 (.dK [])) d3 (.dK []) l = none) :
    Same H (upd (upd (upd (upd (upd H d0 (.dK [])) d1 (.dK [])) d2 (.dK [])) d3 (.dK [])) l (.lst [.ref d0, .ref d1, .ref d2, .ref d3])) ∧
      PartsG H (upd (upd (upd (upd (upd H d0 (.dK [])) d1 (.dK [])) d2 (.dK [])) d3 (.dK [])) l (.lst [.ref d0, .ref d1, .ref d2, .ref d3])) [] [] ⟨l, d0, d1, d2, d3, fun _ => 0, fun _ => 0, fun _ => 0, fun _ => 0⟩ S := by
  have s0 : Same H (upd H d0 (.dK [])) := same_new n0 _
  have a0 : upd H d0 (.dK []) d0 = some (.dK []) := upd_same
  generalize upd H d0 (.dK []) = H0 at n1 n2 n3 nl s0 a0 ⊢
  have s1 : Same H0 (upd H0 d1 (.dK [])) := same_new n1 _
  have a1 : upd H0 d1 (.dK []) d1 = some (.dK []) := upd_same
  have f1 : H d1 = none := by
    cases e : H d1 with
    | none => rfl
    | some o => rw [s0 _ _ e] at n1; cases n1
  have n01 : d0 ≠ d1 := fun z => by rw [← z, a0] at n1; cases n1
  generalize upd H0 d1 (.dK []) = H1 at n2 n3 nl s1 a1 ⊢
  have s01 := Same.tr s0 s1
  have b0 := s1 _ _ a0
  have s2 : Same H1 (upd H1 d2 (.dK [])) := same_new n2 _
  have a2 : upd H1 d2 (.dK []) d2 = some (.dK []) := upd_same
  have f2 : H d2 = none := by
    cases e : H d2 with
    | none => rfl
    | some o => rw [s01 _ _ e] at n2; cases n2
  have n02 : d0 ≠ d2 := fun z => by rw [← z, b0] at n2; cases n2
  have n12 : d1 ≠ d2 := fun z => by rw [← z, a1] at n2; cases n2
  generalize upd H1 d2 (.dK []) = H2 at n3 nl s2 a2 ⊢
  have s02 := Same.tr s01 s2
  have s3 : Same H2 (upd H2 d3 (.dK [])) := same_new n3 _
  have a3 : upd H2 d3 (.dK []) d3 = some (.dK []) := upd_same
  have f3 : H d3 = none := by
    cases e : H d3 with
    | none => rfl
    | some o => rw [s02 _ _ e] at n3; cases n3
  have n03 : d0 ≠ d3 := fun z => by rw [← z, s2 _ _ b0] at n3; cases n3
  have n13 : d1 ≠ d3 := fun z => by rw [← z, s2 _ _ a1] at n3; cases n3
  have n23 : d2 ≠ d3 := fun z => by rw [← z, a2] at n3; cases n3
  generalize upd H2 d3 (.dK []) = H3 at nl s3 a3 ⊢
  have s03 := Same.tr s02 s3
  have s4 : Same H3 (upd H3 l (.lst [.ref d0, .ref d1, .ref d2, .ref d3])) := same_new nl _
  have f4 : H l = none := by
    cases e : H l with
    | none => rfl
    | some o => rw [s03 _ _ e] at nl; cases nl
  refine ⟨Same.tr s03 s4, upd_same, ⟨s4 _ _ (s3 _ _ (s2 _ _ b0)), fun h hh => absurd hh List.not_mem_nil⟩, ⟨s4 _ _ (s3 _ _ (s2 _ _ a1)), fun h hh => absurd hh List.not_mem_nil⟩, ⟨s4 _ _ (s3 _ _ a2), fun h hh => absurd hh List.not_mem_nil⟩, s4 _ _ a3, ⟨n01, n02, n03, n12, n13, n23⟩, fun b hb => ?_⟩
  simp only [List.mem_cons, List.not_mem_nil, or_false] at hb
  rcases hb with rfl | rfl | rfl | rfl | rfl
  · exact f4
  · exact n0
  · exact f1
  · exact f2
  · exact f3
section
variable {P : Program} {w : World} {K : PySem.W.Frag} {mg : Str → Option Value} {base : Heap}
def spGPartsOf (K : PySem.W.Frag) : Sp := fun vs H Q _ => ∃ (mv mv' kv : V) (m : Make) (a : PA) (S : St), vs = [.ref a.p, mv] ∧ HouseAt K H mv' kv m a S ∧ Im H mv m.d ∧ MOk m ∧ ∀ (x : PX) (H' : Hp), Same H H' → PartsG H H' m.hs m.cs x S → Q (.ref x.l) H'
theorem calGPartsOf (T : Txt K mg) : C8.Cal P w K mg base 3 "_law_parts_of" (spGPartsOf K) [] := by
  have cGHandsOf := calGHandsOf (P := P) (w := w) (base := base) T
  have mP_Stand := metPStand (P := P) (w := w) (base := base) T
  have mP_Told := metPTold (P := P) (w := w) (base := base) T
  have mP_Count := metPCount (P := P) (w := w) (base := base) T
  have mP_Letters := metPLetters (P := P) (w := w) (base := base) T
  refine mkCal (k := 2) T.fGPartsOf scGPartsOf T.glo__law_parts_of (fun _ _ _ _ _ _ us hl => match us, hl with | [_, _], _ => rfl) (fun vs H Q E h => ?_) (fun cdv A outer s H vs Q E hr h => ?_)
  · obtain ⟨mv, mv', kv, m, a, S, rfl, _⟩ := h
    rfl
  obtain ⟨mv, mv', kv, m, a, S, rfl, ho, im, ok, q⟩ := h
  have hu := hu_of hr
  obtain ⟨ma, v1, v2, v3, rfl, hma, i1, i2, i3⟩ := id im.t3
  obtain ⟨ca, zs, rfl, hca, izs⟩ := i2.tupE
  have zl := izs.length
  rw [List.length_map] at zl
  have hl100 := ok.hl
  have cl100 := ok.cl
  refine ⟨_, PSs.nox (pss_cons (ps_set (i := 2) scGPartsOf.nd rfl (Or.inl rfl) (pe_lst (pa_cons pe_dnewK (pa_cons pe_dnewK (pa_cons pe_dnewK (pa_cons pe_dnewK pa_nil))))))
      (pss_cons (ps_for PassesOwn.never rfl (pi_list (C8.pe_c cGHandsOf hr (by omega) rfl (pa_cons (pv 1) pa_nil))) (pg_name (i := 3) scGPartsOf.nd rfl (Or.inl rfl))
        (pss_cons (ps_dput hu (pe_ix (ix_listK (K := K) rfl) (pv 2) pe_int (fun _ _ => rfl)) (pv 3) (C8.pe_mt mP_Stand hr (by omega) (pv 0) (pa_cons (pv 3) pa_nil)) rfl)
          (pss_cons (ps_dput hu (pe_ix (ix_listK (K := K) rfl) (pv 2) pe_int (fun _ _ => rfl)) (pv 3) (C8.pe_mt mP_Told hr (by omega) (pv 0) (pa_cons (pv 3) pa_nil)) rfl)
          (pss_one (ps_dput hu (pe_ix (ix_listK (K := K) rfl) (pv 2) pe_int (fun _ _ => rfl)) (pv 3) (C8.pe_mt mP_Count hr (by omega) (pv 0) (pa_cons (pv 3) pa_nil)) rfl)))))
      (pss_cons (ps_for PassesOwn.never rfl (pi_tup (pe_ix (ix_tupK (K := K) rfl) (pv 1) pe_int (fun _ _ => rfl))) (pg_name (i := 4) scGPartsOf.nd rfl (Or.inl rfl))
        (pss_one (ps_dput hu (pe_ix (ix_listK (K := K) rfl) (pv 2) pe_int (fun _ _ => rfl)) (pe_ix (ix_tupK (K := K) rfl) (pv 4) pe_int (fun _ _ => rfl)) (C8.pe_mt mP_Letters hr (by omega) (pv 0) (pa_cons (pe_ix (ix_tupK (K := K) rfl) (pv 4) pe_int (fun _ _ => rfl)) pa_nil)) rfl)))
      (pss_one (ps_ret (pv 2)))))), ?_⟩
  intro d0 n0 d1 n1 d2 n2 d3 n3
  refine ⟨sz, fun l nl => ?_⟩
  obtain ⟨s0, P0⟩ := parts0 (S := S) n0 n1 n2 n3 nl
  generalize upd (upd (upd (upd (upd H d0 (.dK [])) d1 (.dK [])) d2 (.dK [])) d3 (.dK [])) l (.lst [.ref d0, .ref d1, .ref d2, .ref d3]) = H0 at s0 P0
  have fr := P0.fr
  have fl : H l = none := fr l (by simp)
  have f0 : H d0 = none := fr d0 (by simp)
  have f1 : H d1 = none := fr d1 (by simp)
  have f2 : H d2 = none := fr d2 (by simp)
  have f3 : H d3 = none := fr d3 (by simp)
  have ne := P0.ne
  refine ⟨_, rfl, .ref ma, m, rfl, im.mono (ts_same s0), hl100, fun hl H1 nhl s1 hhl => ?_⟩
  have P1 := P0.same s1
  have s01 := Same.tr s0 s1
  refine ⟨hl, rfl, ⟨_, SqL.of hhl⟩, for_it (walk_list (K := K) (a := hl) (xs := (m.hs.map (·.nm)).map V.str)) (fun i σ H' => (∃ c3 c4, σ = [some (.ref a.p), some (.ref ma), some (.ref l), c3, c4]) ∧ Same H H' ∧ H' hl = some (.lst ((m.hs.map (·.nm)).map V.str)) ∧
      ∃ ts td tl cl, PartsG H H' (m.hs.take i) [] ⟨l, d0, d1, d2, d3, ts, td, tl, cl⟩ S)
    ⟨⟨_, _, rfl⟩, s01, hhl, _, _, _, _, P1⟩ (fun i σ H' _ hP => SqL.of hP.2.2.1) ?_ ?_⟩
  · rintro i y σ H2 H3 hi ⟨⟨c3, c4, rfl⟩, s2, hhl2, ts, td, tl, cl, p⟩ ⟨rfl, hy⟩
    rw [List.getElem?_map] at hy
    obtain ⟨nm0, hn, rfl⟩ := Option.map_eq_some_iff.mp hy
    rw [List.getElem?_map] at hn
    obtain ⟨h, hh, rfl⟩ := Option.map_eq_some_iff.mp hn
    have hm : h ∈ m.hs := List.mem_of_getElem? hh
    have nd : ∀ k ∈ m.hs.take i, k.nm ≠ h.nm := fun k hk e => nodup_take_ne (f := (·.nm)) ok.hn hh (by rw [← e]; exact List.mem_map_of_mem (f := (·.nm)) hk)
    have tk : m.hs.take (i + 1) = m.hs.take i ++ [h] := by rw [List.take_succ, hh]; rfl
    have tl100 : (m.hs.take i).length ≤ 100 := by rw [List.length_take]; omega
    have lnl : ∀ {f : Str → Addr}, (lnD ((m.hs.take i).map fun h => (h.nm, f h.nm))).length < sizeLine := fun {f} => small1000 (by rw [lnD, List.length_map, List.length_map]; omega)
    have ho2 := ho.same s2
    -- the stand
    refine ⟨_, rfl, a.p, a.dx, _, rfl, ho2.ob, pf_no _ (by decide +kernel), _, rfl, mv', kv, m, a, S, h, rfl, ho2, ok, hm, fun t d kvs H4 s4 nt nd4 ht hd bx => ?_⟩
    have p4 := p.same s4
    have dfr : H d = none := by
      cases e : H d with
      | none => rfl
      | some o => rw [s2 _ _ e] at nd4; cases nd4
    have dn : d ∉ [d0, d1, d2, d3] := fun hm => by
      simp only [List.mem_cons, List.not_mem_nil, or_false] at hm
      rcases hm with rfl | rfl | rfl | rfl
      · have := p.p0.d; rw [show (PX.mk l d d1 d2 d3 ts td tl cl).d0 = d from rfl, nd4] at this; cases this
      · have := p.p1.d; rw [show (PX.mk l d0 d d2 d3 ts td tl cl).d1 = d from rfl, nd4] at this; cases this
      · have := p.p2.d; rw [show (PX.mk l d0 d1 d d3 ts td tl cl).d2 = d from rfl, nd4] at this; cases this
      · have := p.p3; rw [show (PX.mk l d0 d1 d2 d ts td tl cl).d3 = d from rfl, nd4] at this; cases this
    have q0 := PartsG.put0 p4.p0 nd (S' := S) (fun _ _ => rfl) ht hd bx dn dfr
    have d04 : H4 d0 = some (.dK (lnD ((m.hs.take i).map fun h => (h.nm, ts h.nm)))) := p4.p0.d
    refine ⟨_, rfl, _, _, _, _, rfl, rfl, SqL.of p4.l, at0, _, rfl, d0, _, rfl, DPut.k (k := Sum.inr h.nm) d04 lnl, ?_⟩
    have F5 : ∀ b u, H4 b = some u → b ≠ d0 → upd H4 d0 (.dK (putK (lnD ((m.hs.take i).map fun h => (h.nm, ts h.nm))) (Sum.inr h.nm) (.ref t))) b = some u := fun b u e n => by rw [upd_ne n]; exact e
    have s5 : Same H (upd H4 d0 (.dK (putK (lnD ((m.hs.take i).map fun h => (h.nm, ts h.nm))) (Sum.inr h.nm) (.ref t)))) := same_upd (Same.tr s2 s4) f0 _
    have q0 : D0 H (upd H4 d0 (.dK (putK (lnD ((m.hs.take i).map fun h => (h.nm, ts h.nm))) (Sum.inr h.nm) (.ref t)))) (m.hs.take i ++ [h]) ⟨l, d0, d1, d2, d3, fun n => if n = h.nm then t else ts n, fun n => if n = h.nm then d else td n, tl, cl⟩ S := q0
    generalize upd H4 d0 (.dK (putK (lnD ((m.hs.take i).map fun h => (h.nm, ts h.nm))) (Sum.inr h.nm) (.ref t))) = H5 at F5 s5 q0
    have q1 := p4.p1.keep F5 d04 (fun _ z => by cases z) ne.n01 (p4.p1.nd d04)
    have q2 := p4.p2.keep F5 ne.n02 (p4.p2.nd d04)
    have q3 := F5 _ _ p4.p3 (Ne.symm ne.n03)
    have l4 : H4 l = some (.lst [.ref d0, .ref d1, .ref d2, .ref d3]) := p4.l
    have ql := F5 _ _ l4 (fun z => by rw [z, d04] at l4; cases l4)
    have hh5 := F5 _ _ (s4 _ _ hhl2) (fun z => by have := s4 _ _ hhl2; rw [z, d04] at this; cases this)
    have ho5 := ho.same s5
    -- what it told
    refine ⟨_, rfl, a.p, a.dx, _, rfl, ho5.ob, pf_no _ (by decide +kernel), _, rfl, mv', kv, m, a, S, h, rfl, ho5, ok, hm, fun lt H6 s6 nlt hlt => ?_⟩
    have ql6 := s6 _ _ ql
    have q06 := q0.same s6
    have q16 := q1.same s6
    have q26 := q2.same s6
    have q36 := s6 _ _ q3
    have d26 : H6 d2 = some (.dK (lnD ((m.hs.take i).map fun h => (h.nm, tl h.nm)))) := q26.d
    have ltl : lt ≠ l := fun z => by rw [z, ql] at nlt; cases nlt
    have lfr : H lt = none := by
      cases e : H lt with
      | none => rfl
      | some o => rw [s5 _ _ e] at nlt; cases nlt
    have r2 := PartsG.put2 q26 nd (S' := S) (fun _ _ => rfl) hlt ltl lfr
    refine ⟨_, rfl, _, _, _, _, rfl, rfl, SqL.of ql6, at2, _, rfl, d2, _, rfl, DPut.k (k := Sum.inr h.nm) d26 lnl, ?_⟩
    have F7 : ∀ b u, H6 b = some u → b ≠ d2 → upd H6 d2 (.dK (putK (lnD ((m.hs.take i).map fun h => (h.nm, tl h.nm))) (Sum.inr h.nm) (.ref lt))) b = some u := fun b u e n => by rw [upd_ne n]; exact e
    have s7 : Same H (upd H6 d2 (.dK (putK (lnD ((m.hs.take i).map fun h => (h.nm, tl h.nm))) (Sum.inr h.nm) (.ref lt)))) := same_upd (Same.tr s5 s6) f2 _
    have r2 : D2 H (upd H6 d2 (.dK (putK (lnD ((m.hs.take i).map fun h => (h.nm, tl h.nm))) (Sum.inr h.nm) (.ref lt)))) (m.hs.take i ++ [h]) ⟨l, d0, d1, d2, d3, ts, td, fun n => if n = h.nm then lt else tl n, cl⟩ S := r2
    generalize upd H6 d2 (.dK (putK (lnD ((m.hs.take i).map fun h => (h.nm, tl h.nm))) (Sum.inr h.nm) (.ref lt))) = H7 at F7 s7 r2
    have r0 := q06.keep F7 d26 (fun _ z => by cases z) (Ne.symm ne.n02) (fun k hk z => (q06.e k hk).2.2.1 (by rw [← z]; simp))
    have r1 := q16.keep F7 d26 (fun _ z => by cases z) (Ne.symm ne.n12) (q16.nd d26)
    have r3 := F7 _ _ q36 (Ne.symm ne.n23)
    have rl := F7 _ _ ql6 (fun z => by rw [z, d26] at ql6; cases ql6)
    have hh7 := F7 _ _ (s6 _ _ hh5) (fun z => by have := s6 _ _ hh5; rw [z, d26] at this; cases this)
    have ho7 := ho.same s7
    -- its count
    have d37 : H7 d3 = some (.dK (inD (m.hs.take i) S)) := r3
    refine ⟨_, rfl, a.p, a.dx, _, rfl, ho7.ob, pf_no _ (by decide +kernel), _, rfl, mv', kv, m, a, S, h, rfl, ho7, ok, hm, _, rfl, _, _, _, _, rfl, rfl, SqL.of rl, at3', _, rfl, d3, _, rfl, DPut.k (k := Sum.inr h.nm) d37 (small1000 (by unfold inD; rw [List.length_map]; omega)), ?_⟩
    rw [inD_put nd (S' := S) (fun _ _ => rfl)]
    have F8 : ∀ b u, H7 b = some u → b ≠ d3 → upd H7 d3 (.dK (inD (m.hs.take i ++ [h]) S)) b = some u := fun b u e n => by rw [upd_ne n]; exact e
    have s8 : Same H (upd H7 d3 (.dK (inD (m.hs.take i ++ [h]) S))) := same_upd s7 f3 _
    have t3 : upd H7 d3 (.dK (inD (m.hs.take i ++ [h]) S)) d3 = some (.dK (inD (m.hs.take i ++ [h]) S)) := upd_same
    generalize upd H7 d3 (.dK (inD (m.hs.take i ++ [h]) S)) = H8 at F8 s8 t3
    have t0 := r0.keep F8 d37 (fun _ z => by cases z) (Ne.symm ne.n03) (fun k hk z => (r0.e k hk).2.2.1 (by rw [← z]; simp))
    have t1 := r1.keep F8 d37 (fun _ z => by cases z) (Ne.symm ne.n13) (r1.nd d37)
    have t2 := r2.keep F8 (Ne.symm ne.n23) (r2.nd d37)
    have tl8 := F8 _ _ rl (fun z => by rw [z, d37] at rl; cases rl)
    have hh8 := F8 _ _ hh7 (fun z => by rw [z, d37] at hh7; cases hh7)
    refine ⟨⟨_, _, rfl⟩, s8, hh8, fun n => if n = h.nm then t else ts n, fun n => if n = h.nm then d else td n, fun n => if n = h.nm then lt else tl n, cl, ?_⟩
    rw [tk]
    exact ⟨tl8, ⟨t0.d, t0.e⟩, ⟨t1.d, t1.e⟩, ⟨t2.d, t2.e⟩, t3, ⟨ne.n01, ne.n02, ne.n03, ne.n12, ne.n13, ne.n23⟩, fr⟩
  · rintro σ H2 ⟨⟨c3, c4, rfl⟩, s2, hhl2, ts, td, tl, cl, p⟩
    rw [List.take_of_length_le (by rw [List.length_map, List.length_map]; exact Nat.le_refl _)] at p
    refine ⟨_, rfl, _, _, _, _, rfl, rfl, SqT.of (s2 _ _ hma), at1, ca, rfl, ⟨_, SqT.of (s2 _ _ hca)⟩, for_it (walk_tup (K := K) (a := ca) (xs := zs)) (fun i σ H' => (∃ c3 c4, σ = [some (.ref a.p), some (.ref ma), some (.ref l), c3, c4]) ∧ Same H H' ∧ ∃ cl, PartsG H H' m.hs (m.cs.take i) ⟨l, d0, d1, d2, d3, ts, td, tl, cl⟩ S)
      ⟨⟨_, _, rfl⟩, s2, _, p⟩ (fun i σ H' _ hP => SqT.of (hP.2.1 _ _ hca)) ?_ ?_⟩
    · rintro i y σ H3 H4 hi ⟨⟨c3, c4, rfl⟩, s3, cl, p⟩ ⟨rfl, hy⟩
      obtain ⟨e, he, ie⟩ := izs.of hy
      rw [List.getElem?_map] at he
      obtain ⟨c, hc, rfl⟩ := Option.map_eq_some_iff.mp he
      have cm : c ∈ m.cs := List.mem_of_getElem? hc
      obtain ⟨ta, w1, w2, w3, w4, rfl, hta, g1, _, _, _⟩ := (ie.mono (ts_same s3)).t4
      cases g1.strE
      have nd : ∀ k ∈ m.cs.take i, k.nm ≠ c.nm := fun k hk e => nodup_take_ne (f := (·.nm)) ok.cn hc (by rw [← e]; exact List.mem_map_of_mem (f := (·.nm)) hk)
      have tk : m.cs.take (i + 1) = m.cs.take i ++ [c] := by rw [List.take_succ, hc]; rfl
      have ho3 := ho.same s3
      refine ⟨_, rfl, a.p, a.dx, _, rfl, ho3.ob, pf_no _ (by decide +kernel), _, rfl, _, _, _, _, rfl, rfl, SqT.of hta, at0, mv', kv, m, a, S, c, rfl, ho3, ok, cm, fun lt xs H5 s5 nlt hlt ixs => ?_⟩
      have p5 := p.same s5
      have l4 : H4 l = some (.lst [.ref d0, .ref d1, .ref d2, .ref d3]) := p.l
      have l5 : H5 l = some (.lst [.ref d0, .ref d1, .ref d2, .ref d3]) := p5.l
      have d15 : H5 d1 = some (.dK (lnD ((m.cs.take i).map fun c => (c.nm, cl c.nm)))) := p5.p1.d
      have ltl : lt ≠ l := fun z => by rw [z, l4] at nlt; cases nlt
      have lfr : H lt = none := by
        cases e : H lt with
        | none => rfl
        | some o => rw [s3 _ _ e] at nlt; cases nlt
      have r1 := PartsG.put1 p5.p1 nd (S' := S) (fun _ _ => rfl) hlt ixs ltl lfr
      refine ⟨_, rfl, _, _, _, _, rfl, rfl, SqL.of l5, at1, _, rfl, _, _, _, _, rfl, rfl, SqT.of (s5 _ _ hta), at0, d1, _, rfl, DPut.k (k := Sum.inr c.nm) d15 (small1000 (by rw [lnD, List.length_map, List.length_map, List.length_take]; omega)), ?_⟩
      have F7 : ∀ b u, H5 b = some u → b ≠ d1 → upd H5 d1 (.dK (putK (lnD ((m.cs.take i).map fun c => (c.nm, cl c.nm))) (Sum.inr c.nm) (.ref lt))) b = some u := fun b u e n => by rw [upd_ne n]; exact e
      have s7 : Same H (upd H5 d1 (.dK (putK (lnD ((m.cs.take i).map fun c => (c.nm, cl c.nm))) (Sum.inr c.nm) (.ref lt)))) := same_upd (Same.tr s3 s5) f1 _
      have r1 : D1 H (upd H5 d1 (.dK (putK (lnD ((m.cs.take i).map fun c => (c.nm, cl c.nm))) (Sum.inr c.nm) (.ref lt)))) (m.cs.take i ++ [c]) ⟨l, d0, d1, d2, d3, ts, td, tl, fun n => if n = c.nm then lt else cl n⟩ S := r1
      generalize upd H5 d1 (.dK (putK (lnD ((m.cs.take i).map fun c => (c.nm, cl c.nm))) (Sum.inr c.nm) (.ref lt))) = H7 at F7 s7 r1
      have r0 := p5.p0.keep F7 d15 (fun _ z => by cases z) (Ne.symm ne.n01) (fun k hk z => (p5.p0.e k hk).2.2.1 (by rw [← z]; simp))
      have r2 := p5.p2.keep F7 ne.n12 (p5.p2.nd d15)
      have r3 := F7 _ _ p5.p3 (Ne.symm ne.n13)
      have rl := F7 _ _ l5 (fun z => by rw [z, d15] at l5; cases l5)
      refine ⟨⟨_, _, rfl⟩, s7, fun n => if n = c.nm then lt else cl n, ?_⟩
      rw [tk]
      exact ⟨rl, ⟨r0.d, r0.e⟩, r1, ⟨r2.d, r2.e⟩, r3, ⟨ne.n01, ne.n02, ne.n03, ne.n12, ne.n13, ne.n23⟩, fr⟩
    · rintro σ H3 ⟨⟨c3, c4, rfl⟩, s3, cl, p⟩
      rw [List.take_of_length_le (by omega)] at p
      exact ⟨_, rfl, q _ H3 s3 p⟩
end
end Sw
set_option Elab.async false
set_option linter.all false
set_option maxRecDepth 100000
set_option maxHeartbeats 4000000
/-! What the four dicts are good for; the law's spoil. -/
namespace Sw
open PySem PySem.Spec PyProof.Rows L2
theorem nd_hs {m : Make} (ok : MOk m) {f : Str → Addr} : ((m.hs.map fun h => (h.nm, f h.nm)).map (·.1)).Nodup := by rw [List.map_map]; exact ok.hn
theorem nd_cs {m : Make} (ok : MOk m) {f : Str → Addr} : ((m.cs.map fun c => (c.nm, f c.nm)).map (·.1)).Nodup := by rw [List.map_map]; exact ok.cn
theorem get_hs {m : Make} (ok : MOk m) {f : Str → Addr} {h : Hd} (hm : h ∈ m.hs) : valV (lnD (m.hs.map fun h => (h.nm, f h.nm))) (Sum.inr h.nm : Key) = some (.ref (f h.nm)) := lnD_get (x := (h.nm, f h.nm)) (nd_hs ok) (List.mem_map_of_mem (f := fun h : Hd => (h.nm, f h.nm)) hm)
theorem get_cs {m : Make} (ok : MOk m) {f : Str → Addr} {c : Ch} (hm : c ∈ m.cs) : valV (lnD (m.cs.map fun c => (c.nm, f c.nm))) (Sum.inr c.nm : Key) = some (.ref (f c.nm)) := lnD_get (x := (c.nm, f c.nm)) (nd_cs ok) (List.mem_map_of_mem (f := fun c : Ch => (c.nm, f c.nm)) hm)
theorem get_in {hs : List Hd} {S : St} (nd : (hs.map (·.nm)).Nodup) {h : Hd} (hm : h ∈ hs) : valV (inD hs S) (Sum.inr h.nm : Key) = some (.int (S.hs h.nm).done) := by
  unfold inD
  induction hs with
  | nil => cases hm
  | cons k r ih =>
    rw [List.map_cons, List.nodup_cons] at nd
    by_cases c : k.nm = h.nm
    · rw [List.map_cons, c]
      exact valV_pos (p := ((Sum.inr h.nm : Key), V.int (S.hs h.nm).done)) rfl
    · rcases List.mem_cons.mp hm with e | e
      · exact absurd (by rw [e]) c
      · exact (valV_neg (p := ((Sum.inr k.nm : Key), V.int (S.hs k.nm).done)) fun z => c (Sum.inr.inj z)).trans (ih nd.2 e)
section
variable {Hb H : Hp} {m : Make} {x : PX} {S : St}
theorem PartsG.four (p : PartsG Hb H m.hs m.cs x S) (ok : MOk m) : Four H m x.d0 x.d1 x.d2 x.d3 S where
  s := ⟨_, p.p0.d, fun h hm => by
    obtain ⟨h1, ⟨kvs, h2, h3⟩, _⟩ := p.p0.e h hm
    exact ⟨.ref (x.ts h.nm), get_hs ok hm, x.ts h.nm, x.td h.nm, kvs, rfl, h1, h2, h3⟩⟩
  l := ⟨_, p.p1.d, fun c hc => by
    obtain ⟨⟨xs, h1, h2⟩, _⟩ := p.p1.e c hc
    exact ⟨x.cl c.nm, xs, get_cs ok hc, h1, h2⟩⟩
  t := ⟨_, p.p2.d, fun h hm => ⟨x.tl h.nm, get_hs ok hm, (p.p2.e h hm).1⟩⟩
  c := ⟨_, p.p3, fun h hm => get_in ok.hn hm⟩
/-- two of one state are equal -/
theorem PartsG.eq {Hc : Hp} {y : PX} (p : PartsG Hb H m.hs m.cs x S) (q : PartsG Hc H m.hs m.cs y S) (ok : MOk m) (so : SOk m S) : Paired (EqN H 14) [V.ref x.d0, .ref x.d1, .ref x.d2, .ref x.d3] [V.ref y.d0, .ref y.d1, .ref y.d2, .ref y.d3] := by
  have e0 : EqN H 14 (.ref x.d0) (.ref y.d0) := (EqN.dict (n := 11) p.p0.d q.p0.d (by rw [lnD, lnD, List.length_map, List.length_map, List.length_map, List.length_map]) fun z hz => by
    rw [lnD, List.map_map] at hz
    obtain ⟨h, hm, rfl⟩ := List.mem_map.mp hz
    obtain ⟨h1, ⟨kvs, h2, h3⟩, _⟩ := p.p0.e h hm
    obtain ⟨k1, ⟨lvs, k2, k3⟩, _⟩ := q.p0.e h hm
    have hs := so.hs h hm
    have hok := ok.hd h hm
    exact ⟨_, get_hs ok hm, EqN.tup (n := 10) h1 k1 (.cons (EqN.flat (n := 9) rfl) (.cons (eq_boxes ok.ks hok.bk hok.bn hs.env hs.nm h2 k2 h3 k3) .nil))⟩).mono (by decide)
  have e1 : EqN H 14 (.ref x.d1) (.ref y.d1) := (EqN.dict (n := 10) p.p1.d q.p1.d (by rw [lnD, lnD, List.length_map, List.length_map, List.length_map, List.length_map]) fun z hz => by
    rw [lnD, List.map_map] at hz
    obtain ⟨c, hc, rfl⟩ := List.mem_map.mp hz
    obtain ⟨⟨xs, h1, h2⟩, _⟩ := p.p1.e c hc
    obtain ⟨⟨ys, k1, k2⟩, _⟩ := q.p1.e c hc
    exact ⟨_, get_cs ok hc, EqN.lst (n := 9) h1 k1 (paired_ims h2 k2 fun d hd v u iv iu => eqV9 ok.ks (ok.ck c hc) (so.q c hc d hd) iv iu)⟩).mono (by decide)
  have e2 : EqN H 14 (.ref x.d2) (.ref y.d2) := (EqN.dict (n := 10) p.p2.d q.p2.d (by rw [lnD, lnD, List.length_map, List.length_map, List.length_map, List.length_map]) fun z hz => by
    rw [lnD, List.map_map] at hz
    obtain ⟨h, hm, rfl⟩ := List.mem_map.mp hz
    exact ⟨_, get_hs ok hm, EqN.lst (n := 9) (p.p2.e h hm).1 (q.p2.e h hm).1 (paired_ints (n := 8) _)⟩).mono (by decide)
  have e3 : EqN H 14 (.ref x.d3) (.ref y.d3) := (EqN.dict (n := 1) p.p3 q.p3 rfl fun z hz => by
    obtain ⟨h, hm, rfl⟩ := List.mem_map.mp hz
    exact ⟨_, get_in ok.hn hm, EqN.flat (n := 0) rfl⟩).mono (by decide)
  exact .cons e0 (.cons e1 (.cons e2 (.cons e3 .nil)))
def PX.mut (m : Make) (x : PX) : List Addr := [x.d0, x.d1, x.d2, x.d3] ++ (m.hs.map fun h => x.td h.nm) ++ (m.hs.map fun h => x.tl h.nm) ++ m.cs.map fun c => x.cl c.nm
theorem PX.m_td {h : Hd} (hm : h ∈ m.hs) : x.td h.nm ∈ x.mut m := List.mem_append_left _ (List.mem_append_left _ (List.mem_append_right _ (List.mem_map_of_mem (f := fun h : Hd => x.td h.nm) hm)))
theorem PX.m_tl {h : Hd} (hm : h ∈ m.hs) : x.tl h.nm ∈ x.mut m := List.mem_append_left _ (List.mem_append_right _ (List.mem_map_of_mem (f := fun h : Hd => x.tl h.nm) hm))
theorem PX.m_cl {c : Ch} (hm : c ∈ m.cs) : x.cl c.nm ∈ x.mut m := List.mem_append_right _ (List.mem_map_of_mem (f := fun c : Ch => x.cl c.nm) hm)
theorem PX.m_d {b : Addr} (h : b ∈ [x.d0, x.d1, x.d2, x.d3]) : b ∈ x.mut m := List.mem_append_left _ (List.mem_append_left _ (List.mem_append_left _ h))
/-- all that spoil changes is new -/
theorem PartsG.fresh (p : PartsG Hb H m.hs m.cs x S) : ∀ b ∈ x.mut m, Hb b = none := fun b hb => by
  rcases List.mem_append.mp hb with hb | hb
  · rcases List.mem_append.mp hb with hb | hb
    · rcases List.mem_append.mp hb with hb | hb
      · exact p.fr b (List.mem_cons_of_mem _ hb)
      · obtain ⟨h, hm, rfl⟩ := List.mem_map.mp hb
        exact (p.p0.e h hm).2.2.2
    · obtain ⟨h, hm, rfl⟩ := List.mem_map.mp hb
      exact (p.p2.e h hm).2.2
  · obtain ⟨c, hc, rfl⟩ := List.mem_map.mp hb
    exact (p.p1.e c hc).2.2
/-- .. and there -/
theorem PartsG.there (p : PartsG Hb H m.hs m.cs x S) : ∀ b ∈ x.mut m, H b ≠ none := fun b hb => by
  rcases List.mem_append.mp hb with hb | hb
  · rcases List.mem_append.mp hb with hb | hb
    · rcases List.mem_append.mp hb with hb | hb
      · simp only [List.mem_cons, List.not_mem_nil, or_false] at hb
        rcases hb with rfl | rfl | rfl | rfl
        · rw [p.p0.d]; exact Option.some_ne_none _
        · rw [p.p1.d]; exact Option.some_ne_none _
        · rw [p.p2.d]; exact Option.some_ne_none _
        · rw [p.p3]; exact Option.some_ne_none _
      · obtain ⟨h, hm, rfl⟩ := List.mem_map.mp hb
        obtain ⟨_, ⟨kvs, h2, _⟩, _⟩ := p.p0.e h hm
        rw [h2]; exact Option.some_ne_none _
    · obtain ⟨h, hm, rfl⟩ := List.mem_map.mp hb
      rw [(p.p2.e h hm).1]; exact Option.some_ne_none _
  · obtain ⟨c, hc, rfl⟩ := List.mem_map.mp hb
    obtain ⟨⟨xs, h1, _⟩, _⟩ := p.p1.e c hc
    rw [h1]; exact Option.some_ne_none _
end
end Sw
set_option Elab.async false
set_option linter.all false
set_option maxRecDepth 100000
set_option maxHeartbeats 4000000
/-! The law's spoil. -/
namespace Sw
open PySem PySem.Spec PyProof.Rows L2
/-- what spoil leaves in order, on its way -/
structure SpJ (H0 H : Hp) (m : Make) (x : PX) (n : Nat) : Prop where
  F : But (x.mut m) H0 H
  l : H x.l = some (.lst [.ref x.d0, .ref x.d1, .ref x.d2, .ref x.d3])
  ts : ∀ h ∈ m.hs, ∃ i : Int, H (x.ts h.nm) = some (.tup [.int i, .ref (x.td h.nm)])
  td : ∀ h ∈ m.hs, (∃ k, H (x.td h.nm) = some (.dK k)) ∧ x.td h.nm ∉ [x.d0, x.d1, x.d2, x.d3]
  tl : ∀ h ∈ m.hs, (∃ zs, H (x.tl h.nm) = some (.lst zs) ∧ zs.length ≤ n) ∧ x.tl h.nm ≠ x.l
  cl : ∀ c ∈ m.cs, (∃ zs, H (x.cl c.nm) = some (.lst zs) ∧ zs.length ≤ n) ∧ x.cl c.nm ≠ x.l
section
variable {H0 H : Hp} {m : Make} {x : PX} {n : Nat} {y : Addr}
/-- a dict changes -/
theorem SpJ.dict (j : SpJ H0 H m x n) (hy : y ∈ x.mut m) {k k' : List (Key × V)} (e : H y = some (.dK k)) : SpJ H0 (upd H y (.dK k')) m x n := by
  have nl : ∀ {b : Addr} {o : HO}, H b = some o → (∀ z, o ≠ .dK z) → upd H y (.dK k') b = some o := fun {b o} h ne => by rw [upd_ne (fun z => by rw [z, e] at h; cases h; exact ne _ rfl)]; exact h
  refine ⟨j.F.put hy _, nl j.l (fun _ z => by cases z), fun h hm => let ⟨i, h1⟩ := j.ts h hm; ⟨i, nl h1 (fun _ z => by cases z)⟩, fun h hm => ⟨?_, (j.td h hm).2⟩, fun h hm => ?_, fun c hc => ?_⟩
  · obtain ⟨⟨k0, h1⟩, _⟩ := j.td h hm
    by_cases z : x.td h.nm = y
    · exact ⟨k', by rw [z]; exact upd_same⟩
    · exact ⟨k0, by rw [upd_ne z]; exact h1⟩
  · obtain ⟨⟨zs, h1, h2⟩, h3⟩ := j.tl h hm
    exact ⟨⟨zs, nl h1 (fun _ z => by cases z), h2⟩, h3⟩
  · obtain ⟨⟨zs, h1, h2⟩, h3⟩ := j.cl c hc
    exact ⟨⟨zs, nl h1 (fun _ z => by cases z), h2⟩, h3⟩
/-- a list grows -/
theorem SpJ.list (j : SpJ H0 H m x n) (hy : y ∈ x.mut m) (ny : y ≠ x.l) {zs : List V} (e : H y = some (.lst zs)) (hz : zs.length ≤ n) {v : V} : SpJ H0 (upd H y (.lst (zs ++ [v]))) m x (n + 1) := by
  have nl : ∀ {b : Addr} {o : HO}, H b = some o → (∀ z, o ≠ .lst z) → upd H y (.lst (zs ++ [v])) b = some o := fun {b o} h ne => by rw [upd_ne (fun z => by rw [z, e] at h; cases h; exact ne _ rfl)]; exact h
  have gr : ∀ {b : Addr} {us : List V}, H b = some (.lst us) → us.length ≤ n → ∃ ws, upd H y (.lst (zs ++ [v])) b = some (.lst ws) ∧ ws.length ≤ n + 1 := fun {b us} h1 h2 => by
    by_cases z : b = y
    · exact ⟨_, by rw [z]; exact upd_same, by rw [List.length_append, List.length_singleton]; omega⟩
    · exact ⟨us, by rw [upd_ne z]; exact h1, by omega⟩
  refine ⟨j.F.put hy _, by rw [upd_ne (Ne.symm ny)]; exact j.l, fun h hm => let ⟨i, h1⟩ := j.ts h hm; ⟨i, nl h1 (fun _ z => by cases z)⟩, fun h hm => ⟨let ⟨⟨k, h1⟩, _⟩ := j.td h hm; ⟨k, nl h1 (fun _ z => by cases z)⟩, (j.td h hm).2⟩, fun h hm => ?_, fun c hc => ?_⟩
  · obtain ⟨⟨us, h1, h2⟩, h3⟩ := j.tl h hm
    exact ⟨gr h1 h2, h3⟩
  · obtain ⟨⟨us, h1, h2⟩, h3⟩ := j.cl c hc
    exact ⟨gr h1 h2, h3⟩
/-- one of the four is locked, unlocked -/
theorem SpJ.swap (j : SpJ H0 H m x n) (hy : y ∈ [x.d0, x.d1, x.d2, x.d3]) {o : HO} (e : (∃ k, H y = some (.dK k)) ∨ ∃ od k, H y = some (.frz od (.dK k))) : SpJ H0 (upd H y o) m x n := by
  have nl : ∀ {b : Addr} {u : HO}, H b = some u → (∀ z, u ≠ .dK z) → (∀ od z, u ≠ .frz od (.dK z)) → upd H y o b = some u := fun {b u} h n1 n2 => by
    rw [upd_ne (fun z => by
      rw [z] at h
      rcases e with ⟨k, e⟩ | ⟨od, k, e⟩
      · rw [e] at h; cases h; exact n1 _ rfl
      · rw [e] at h; cases h; exact n2 _ _ rfl)]
    exact h
  refine ⟨j.F.put (PX.m_d hy) _, nl j.l (fun _ z => by cases z) (fun _ _ z => by cases z), fun h hm => let ⟨i, h1⟩ := j.ts h hm; ⟨i, nl h1 (fun _ z => by cases z) (fun _ _ z => by cases z)⟩, fun h hm => ⟨?_, (j.td h hm).2⟩, fun h hm => ?_, fun c hc => ?_⟩
  · obtain ⟨⟨k0, h1⟩, h2⟩ := j.td h hm
    exact ⟨k0, by rw [upd_ne (fun z => h2 (by rw [z]; exact hy))]; exact h1⟩
  · obtain ⟨⟨zs, h1, h2⟩, h3⟩ := j.tl h hm
    exact ⟨⟨zs, nl h1 (fun _ z => by cases z) (fun _ _ z => by cases z), h2⟩, h3⟩
  · obtain ⟨⟨zs, h1, h2⟩, h3⟩ := j.cl c hc
    exact ⟨⟨zs, nl h1 (fun _ z => by cases z) (fun _ _ z => by cases z), h2⟩, h3⟩
end
section
variable {P : Program} {w : World} {K : PySem.W.Frag} {mg : Str → Option Value} {base : Heap}
def spGSpoil : Sp := fun vs H Q _ => ∃ (Hb : Hp) (m : Make) (x : PX) (S : St), vs = [.ref x.l] ∧ PartsG Hb H m.hs m.cs x S ∧ MOk m ∧ Bnd m 500 S ∧ ∀ H', But (x.mut m) H H' → Q .non H'
theorem calGSpoil (T : Txt K mg) : C8.Cal P w K mg base 1 "_law_spoil" spGSpoil [] := by
  refine mkCal (k := 0) T.fGSpoil scGSpoil T.glo__law_spoil (fun _ _ _ _ _ _ us hl => match us, hl with | [_], _ => rfl) (fun vs H Q E h => ?_) (fun cdv A outer s H vs Q E hr h => ?_)
  · obtain ⟨Hb, m, x, S, rfl, _⟩ := h
    rfl
  obtain ⟨Hb, m, x, S, rfl, p, ok, bd, q⟩ := h
  have hu := hu_of hr
  have hl100 := ok.hl
  have cl100 := ok.cl
  have ne := p.ne
  have j0 : SpJ H H m x 500 := ⟨.refl, p.l, fun h hm => ⟨_, (p.p0.e h hm).1⟩, fun h hm => ⟨let ⟨_, ⟨k, h2, _⟩, _⟩ := p.p0.e h hm; ⟨k, h2⟩, (p.p0.e h hm).2.2.1⟩, fun h hm => ⟨⟨_, (p.p2.e h hm).1, by rw [List.length_map]; exact bd.1 h hm⟩, (p.p2.e h hm).2.1⟩, fun c hc => ⟨by
    obtain ⟨⟨xs, h1, h2⟩, _⟩ := p.p1.e c hc
    exact ⟨xs, h1, by rw [h2.length]; exact bd.2 c.nm⟩, (p.p1.e c hc).2.1⟩⟩
  have m0 : x.d0 ∈ [x.d0, x.d1, x.d2, x.d3] := by simp
  have m1 : x.d1 ∈ [x.d0, x.d1, x.d2, x.d3] := by simp
  have m2 : x.d2 ∈ [x.d0, x.d1, x.d2, x.d3] := by simp
  have m3 : x.d3 ∈ [x.d0, x.d1, x.d2, x.d3] := by simp
  refine ⟨_, PSs.nox (pss_cons (ps_lock (ps_for PassesOwn.never rfl (pi_keys (pe_ix (ix_listK (K := K) rfl) (pv 0) pe_int (fun _ _ => rfl))) (pg_name (i := 1) scGSpoil.nd rfl (Or.inl rfl))
        (pss_cons (ps_expr (pe_dclear (pe_ix (ix_tupK (K := K) rfl) (pe_dget hu (pe_ix (ix_listK (K := K) rfl) (pv 0) pe_int (fun _ _ => rfl)) (pv 1) (fun _ _ => rfl)) pe_int (fun _ _ => rfl))))
          (pss_one (ps_expr (pe_bm PySem.F.plainAttrs_list PySem.F.slot_list_append PySem.F.type_list_append mt_append (pe_dget hu (pe_ix (ix_listK (K := K) rfl) (pv 0) pe_int (fun _ _ => rfl)) (pv 1) (fun _ _ => rfl)) (pa_cons pe_int pa_nil)))))))
      (pss_cons (ps_lock (ps_for PassesOwn.never rfl (pi_keys (pe_ix (ix_listK (K := K) rfl) (pv 0) pe_int (fun _ _ => rfl))) (pg_name (i := 2) scGSpoil.nd rfl (Or.inl rfl))
        (pss_one (ps_expr (pe_bm PySem.F.plainAttrs_list PySem.F.slot_list_append PySem.F.type_list_append mt_append (pe_dget hu (pe_ix (ix_listK (K := K) rfl) (pv 0) pe_int (fun _ _ => rfl)) (pv 2) (fun _ _ => rfl)) (pa_cons pe_int pa_nil))))))
      (pss_one (ps_for PassesOwn.never rfl (pi_list (pv 0)) (pg_name (i := 3) scGSpoil.nd rfl (Or.inl rfl))
        (pss_one (ps_expr (pe_dclear (pv 3)))))))), ?_⟩
  refine ⟨x.d0, _, p.p0.d, trivial, fun od => ?_⟩
  have j1 := j0.swap m0 (o := .frz od (.dK (lnD (m.hs.map fun h => (h.nm, x.ts h.nm))))) (.inl ⟨_, p.p0.d⟩)
  refine ⟨_, rfl, _, _, _, _, rfl, rfl, SqL.of j1.l, at0, x.d0, od, rfl, .inl ⟨_, upd_same, for_it (walk_keys (d := x.d0) (o := od) (kvs := lnD (m.hs.map fun h => (h.nm, x.ts h.nm)))) (fun i σ H' => (∃ c1 c2 c3, σ = [some (.ref x.l), c1, c2, c3]) ∧ SpJ H H' m x (500 + i) ∧ H' x.d0 = some (.frz od (.dK (lnD (m.hs.map fun h => (h.nm, x.ts h.nm))))) ∧
      H' x.d1 = some (.dK (lnD (m.cs.map fun c => (c.nm, x.cl c.nm)))) ∧ H' x.d2 = some (.dK (lnD (m.hs.map fun h => (h.nm, x.tl h.nm)))) ∧ H' x.d3 = some (.dK (inD m.hs S)))
    ⟨⟨_, _, _, rfl⟩, j1, upd_same, by rw [upd_ne (Ne.symm ne.n01)]; exact p.p1.d, by rw [upd_ne (Ne.symm ne.n02)]; exact p.p2.d, by rw [upd_ne (Ne.symm ne.n03)]; exact p.p3⟩ (fun i σ H' _ hP => hP.2.2.1) ?_ ?_⟩⟩
  · rintro i y σ H1 H2 hi ⟨⟨c1, c2, c3, rfl⟩, j, f0, e1, e2, e3⟩ ⟨rfl, k, v, hx, rfl⟩
    rw [lnD, List.length_map, List.length_map] at hi
    rw [lnD, List.getElem?_map] at hx
    obtain ⟨z, hz, ez⟩ := Option.map_eq_some_iff.mp hx
    rw [List.getElem?_map] at hz
    obtain ⟨h, hh, rfl⟩ := Option.map_eq_some_iff.mp hz
    injection ez with ez1 ez2
    subst ez1
    have hm : h ∈ m.hs := List.mem_of_getElem? hh
    obtain ⟨it, hts⟩ := j.ts h hm
    obtain ⟨⟨kd, htd⟩, tdn⟩ := j.td h hm
    have dg0 : DGet H2 x.d0 (.str h.nm) (some (.ref (x.ts h.nm))) := .inl ⟨_, Sum.inr h.nm, .inr ⟨od, f0⟩, rfl, (get_hs ok hm).symm⟩
    refine ⟨_, rfl, _, _, _, _, rfl, rfl, SqL.of j.l, at0, _, rfl, x.d0, _, rfl, dg0, _, _, _, _, rfl, rfl, SqT.of hts, at1, ?_⟩
    have tn0 : x.d0 ≠ x.td h.nm := fun z => tdn (by rw [← z]; exact m0)
    have tn1 : x.d1 ≠ x.td h.nm := fun z => tdn (by rw [← z]; exact m1)
    have tn2 : x.d2 ≠ x.td h.nm := fun z => tdn (by rw [← z]; exact m2)
    have tn3 : x.d3 ≠ x.td h.nm := fun z => tdn (by rw [← z]; exact m3)
    refine ⟨.inr (.inr (.inl ⟨rfl, .inl ⟨_, htd⟩⟩)), x.td h.nm, kd, rfl, rfl, htd, ?_⟩
    have j3 := j.dict (PX.m_td hm) (k' := []) htd
    have g0 : upd H2 (x.td h.nm) (.dK []) x.d0 = some (.frz od (.dK (lnD (m.hs.map fun h => (h.nm, x.ts h.nm))))) := by rw [upd_ne tn0]; exact f0
    have g1 : upd H2 (x.td h.nm) (.dK []) x.d1 = some (.dK (lnD (m.cs.map fun c => (c.nm, x.cl c.nm)))) := by rw [upd_ne tn1]; exact e1
    have g2 : upd H2 (x.td h.nm) (.dK []) x.d2 = some (.dK (lnD (m.hs.map fun h => (h.nm, x.tl h.nm)))) := by rw [upd_ne tn2]; exact e2
    have g3 : upd H2 (x.td h.nm) (.dK []) x.d3 = some (.dK (inD m.hs S)) := by rw [upd_ne tn3]; exact e3
    generalize upd H2 (x.td h.nm) (.dK []) = H3 at j3 g0 g1 g2 g3
    obtain ⟨⟨zs, htl, hzl⟩, tll⟩ := j3.tl h hm
    have dg2 : DGet H3 x.d2 (.str h.nm) (some (.ref (x.tl h.nm))) := get_hs ok hm ▸ DGet.k (k := Sum.inr h.nm) g2
    refine ⟨_, rfl, _, _, _, _, rfl, rfl, SqL.of j3.l, at2, _, rfl, x.d2, _, rfl, dg2, .inl ⟨rfl, _, SqL.of htl⟩, x.tl h.nm, zs, _, rfl, rfl, htl, small1000 (by omega), ?_⟩
    have nd : ∀ {b : Addr} {o : HO}, H3 b = some o → (∀ z, o ≠ .lst z) → b ≠ x.tl h.nm := fun {b o} e n z => by rw [z, htl] at e; cases e; exact n _ rfl
    exact ⟨⟨_, _, _, rfl⟩, j3.list (PX.m_tl hm) tll htl hzl, by rw [upd_ne (nd g0 (fun _ z => by cases z))]; exact g0, by rw [upd_ne (nd g1 (fun _ z => by cases z))]; exact g1, by rw [upd_ne (nd g2 (fun _ z => by cases z))]; exact g2, by rw [upd_ne (nd g3 (fun _ z => by cases z))]; exact g3⟩
  · rintro σ H1 ⟨⟨c1, c2, c3, rfl⟩, j, f0, e1, e2, e3⟩
    have ll : (lnD (m.hs.map fun h => (h.nm, x.ts h.nm))).length = m.hs.length := by rw [lnD, List.length_map, List.length_map]
    rw [ll] at j
    refine ⟨f0, ?_⟩
    have j2 := j.swap m0 (o := .dK (lnD (m.hs.map fun h => (h.nm, x.ts h.nm)))) (.inr ⟨od, _, f0⟩)
    have a0 : upd H1 x.d0 (.dK (lnD (m.hs.map fun h => (h.nm, x.ts h.nm)))) x.d0 = some (.dK (lnD (m.hs.map fun h => (h.nm, x.ts h.nm)))) := upd_same
    have a1 : upd H1 x.d0 (.dK (lnD (m.hs.map fun h => (h.nm, x.ts h.nm)))) x.d1 = some (.dK (lnD (m.cs.map fun c => (c.nm, x.cl c.nm)))) := by rw [upd_ne (Ne.symm ne.n01)]; exact e1
    have a2 : upd H1 x.d0 (.dK (lnD (m.hs.map fun h => (h.nm, x.ts h.nm)))) x.d2 = some (.dK (lnD (m.hs.map fun h => (h.nm, x.tl h.nm)))) := by rw [upd_ne (Ne.symm ne.n02)]; exact e2
    have a3 : upd H1 x.d0 (.dK (lnD (m.hs.map fun h => (h.nm, x.ts h.nm)))) x.d3 = some (.dK (inD m.hs S)) := by rw [upd_ne (Ne.symm ne.n03)]; exact e3
    generalize upd H1 x.d0 (.dK (lnD (m.hs.map fun h => (h.nm, x.ts h.nm)))) = H2 at j2 a0 a1 a2 a3
    refine ⟨x.d1, _, a1, trivial, fun od => ?_⟩
    have j3 := j2.swap m1 (o := .frz od (.dK (lnD (m.cs.map fun c => (c.nm, x.cl c.nm))))) (.inl ⟨_, a1⟩)
    refine ⟨_, rfl, _, _, _, _, rfl, rfl, SqL.of j3.l, at1, x.d1, od, rfl, .inl ⟨_, upd_same, for_it (walk_keys (d := x.d1) (o := od) (kvs := lnD (m.cs.map fun c => (c.nm, x.cl c.nm)))) (fun i σ H' => (∃ c1 c2 c3, σ = [some (.ref x.l), c1, c2, c3]) ∧ SpJ H H' m x (500 + m.hs.length + i) ∧ H' x.d1 = some (.frz od (.dK (lnD (m.cs.map fun c => (c.nm, x.cl c.nm))))) ∧ (∃ k, H' x.d0 = some (.dK k)) ∧ (∃ k, H' x.d2 = some (.dK k)) ∧ ∃ k, H' x.d3 = some (.dK k))
      ⟨⟨_, _, _, rfl⟩, j3, upd_same, ⟨_, by rw [upd_ne ne.n01]; exact a0⟩, ⟨_, by rw [upd_ne (Ne.symm ne.n12)]; exact a2⟩, ⟨_, by rw [upd_ne (Ne.symm ne.n13)]; exact a3⟩⟩ (fun i σ H' _ hP => hP.2.2.1) ?_ ?_⟩⟩
    · rintro i y σ H3 H4 hi ⟨⟨c1, c2, c3, rfl⟩, j, f1, ⟨k0, b0⟩, ⟨k2, b2⟩, ⟨k3, b3⟩⟩ ⟨rfl, k, v, hx, rfl⟩
      rw [lnD, List.length_map, List.length_map] at hi
      rw [lnD, List.getElem?_map] at hx
      obtain ⟨z, hz, ez⟩ := Option.map_eq_some_iff.mp hx
      rw [List.getElem?_map] at hz
      obtain ⟨c, hc, rfl⟩ := Option.map_eq_some_iff.mp hz
      injection ez with ez1 ez2
      subst ez1
      have cm : c ∈ m.cs := List.mem_of_getElem? hc
      obtain ⟨⟨zs, hcl, hzl⟩, cll⟩ := j.cl c cm
      have dg1 : DGet H4 x.d1 (.str c.nm) (some (.ref (x.cl c.nm))) := .inl ⟨_, Sum.inr c.nm, .inr ⟨od, f1⟩, rfl, (get_cs ok cm).symm⟩
      refine ⟨_, rfl, _, _, _, _, rfl, rfl, SqL.of j.l, at1, _, rfl, x.d1, _, rfl, dg1, .inl ⟨rfl, _, SqL.of hcl⟩, x.cl c.nm, zs, _, rfl, rfl, hcl, small1000 (by omega), ?_⟩
      have nd : ∀ {b : Addr} {o : HO}, H4 b = some o → (∀ z, o ≠ .lst z) → b ≠ x.cl c.nm := fun {b o} e n z => by rw [z, hcl] at e; cases e; exact n _ rfl
      exact ⟨⟨_, _, _, rfl⟩, j.list (PX.m_cl cm) cll hcl hzl, by rw [upd_ne (nd f1 (fun _ z => by cases z))]; exact f1, ⟨k0, by rw [upd_ne (nd b0 (fun _ z => by cases z))]; exact b0⟩, ⟨k2, by rw [upd_ne (nd b2 (fun _ z => by cases z))]; exact b2⟩, ⟨k3, by rw [upd_ne (nd b3 (fun _ z => by cases z))]; exact b3⟩⟩
    · rintro σ H3 ⟨⟨c1, c2, c3, rfl⟩, j, f1, ⟨k0, b0⟩, ⟨k2, b2⟩, ⟨k3, b3⟩⟩
      refine ⟨f1, ?_⟩
      have j4 := j.swap m1 (o := .dK (lnD (m.cs.map fun c => (c.nm, x.cl c.nm)))) (.inr ⟨od, _, f1⟩)
      have all4 : ∀ b ∈ [x.d0, x.d1, x.d2, x.d3], ∃ k, upd H3 x.d1 (.dK (lnD (m.cs.map fun c => (c.nm, x.cl c.nm)))) b = some (.dK k) := fun b hb => by
        simp only [List.mem_cons, List.not_mem_nil, or_false] at hb
        rcases hb with rfl | rfl | rfl | rfl
        · exact ⟨k0, by rw [upd_ne ne.n01]; exact b0⟩
        · exact ⟨_, upd_same⟩
        · exact ⟨k2, by rw [upd_ne (Ne.symm ne.n12)]; exact b2⟩
        · exact ⟨k3, by rw [upd_ne (Ne.symm ne.n13)]; exact b3⟩
      generalize upd H3 x.d1 (.dK (lnD (m.cs.map fun c => (c.nm, x.cl c.nm)))) = H4 at j4 all4
      refine ⟨_, rfl, x.l, rfl, ⟨_, SqL.of j4.l⟩, for_it (walk_list (K := K) (a := x.l) (xs := [V.ref x.d0, .ref x.d1, .ref x.d2, .ref x.d3])) (fun i σ H' => (∃ c1 c2 c3, σ = [some (.ref x.l), c1, c2, c3]) ∧ (∃ n, SpJ H H' m x n) ∧ ∀ b ∈ [x.d0, x.d1, x.d2, x.d3], ∃ k, H' b = some (.dK k))
        ⟨⟨_, _, _, rfl⟩, ⟨_, j4⟩, all4⟩ (fun i σ H' _ hP => by obtain ⟨_, ⟨n, j⟩, _⟩ := hP; exact SqL.of j.l) ?_ ?_⟩
      · rintro i y σ H5 H6 hi ⟨⟨c1, c2, c3, rfl⟩, ⟨n, j⟩, all⟩ ⟨rfl, hy⟩
        obtain ⟨b, hb, rfl⟩ : ∃ b ∈ [x.d0, x.d1, x.d2, x.d3], y = .ref b := by
          have := List.mem_of_getElem? hy
          simp only [List.mem_cons, List.not_mem_nil, or_false] at this
          rcases this with rfl | rfl | rfl | rfl
          · exact ⟨_, m0, rfl⟩
          · exact ⟨_, m1, rfl⟩
          · exact ⟨_, m2, rfl⟩
          · exact ⟨_, m3, rfl⟩
        obtain ⟨k, hk⟩ := all b hb
        refine ⟨_, rfl, .inr (.inr (.inl ⟨rfl, .inl ⟨_, hk⟩⟩)), b, k, rfl, rfl, hk, ⟨_, _, _, rfl⟩, ⟨n, j.dict (PX.m_d hb) hk⟩, fun b' hb' => ?_⟩
        obtain ⟨k', hk'⟩ := all b' hb'
        by_cases z : b' = b
        · exact ⟨[], by rw [z]; exact upd_same⟩
        · exact ⟨k', by rw [upd_ne z]; exact hk'⟩
      · rintro σ H5 ⟨⟨c1, c2, c3, rfl⟩, ⟨n, j⟩, all⟩
        exact q H5 j.F
end
end Sw
set_option Elab.async false
set_option linter.all false
set_option maxRecDepth 100000
set_option maxHeartbeats 4000000
/-! The law's weaving. -/
namespace Sw
open PySem PySem.Spec PyProof.Rows L2
section
variable {P : Program} {w : World} {K : PySem.W.Frag} {mg : Str → Option Value} {base : Heap}
def spGWeaving (K : PySem.W.Frag) : Sp := fun vs H Q _ => ∃ (a : Addr) (mv : V) (ns : List Int) (m : Make), vs = [.ref a, .int 7, mv] ∧ SqL K H a (ns.map V.int) ∧ ns.length ≤ 63 ∧ Im H mv m.d ∧ MOk m ∧
  ∀ (l : Addr) (xs : List Str) (H' : Hp), Same H H' → H l = none → H' l = some (.lst (xs.map V.str)) → (∀ x ∈ xs, ∃ h ∈ m.hs, h.nm = x) → xs.length ≤ 400 → Q (.ref l) H'
theorem calGWeaving (T : Txt K mg) : C8.Cal P w K mg base 2 "_law_weaving" (spGWeaving K) [] := by
  have cGFeed := calGFeed (P := P) (w := w) (base := base) T
  have cGTake := calGTake (P := P) (w := w) (base := base) T
  refine mkCal (k := 1) T.fGWeaving scGWeaving T.glo__law_weaving (fun _ _ _ _ _ _ us hl => match us, hl with | [_, _, _], _ => rfl) (fun vs H Q E h => ?_) (fun cdv A outer s H vs Q E hr h => ?_)
  · obtain ⟨a, mv, ns, m, rfl, _⟩ := h
    rfl
  obtain ⟨a, mv, ns, m, rfl, ha, nsl, im, ok, q⟩ := h
  have hu := hu_of hr
  obtain ⟨ma, v1, v2, v3, rfl, hma, i1, i2, i3⟩ := id im.t3
  obtain ⟨ca, zs, rfl, hca, izs⟩ := i3.tupE
  have zl := izs.length
  rw [List.length_map] at zl
  have hl100 := ok.hl
  have hs0 : 0 < m.hs.length := List.length_pos_iff.mpr ok.h0
  refine ⟨_, PSs.nox (pss_cons (ps_set (i := 3) scGWeaving.nd rfl (Or.inl rfl) (pe_lst pa_nil))
      (pss_cons (ps_for PassesOwn.never rfl (pi_range2 rfl T.free_range (pa_cons (pv 1) (pa_cons (pe_callB (call_min2 rfl) (by rfl) T.free_min (by decide +kernel) (pa_cons (pe_callB (call_len_seqK (K := K) rfl) (by rfl) T.free_len PySem.boot_len (pa_cons (pv 0) pa_nil)) (pa_cons pe_int pa_nil))) pa_nil))) (pg_name (i := 4) scGWeaving.nd rfl (Or.inl rfl))
        (pss_cons (ps_set (i := 5) scGWeaving.nd rfl (Or.inr rfl) (C8.pe_c cGFeed hr (by omega) rfl (pa_cons (pv 0) (pa_cons (pv 4) pa_nil))))
          (pss_one (ps_set (i := 3) scGWeaving.nd rfl (Or.inl rfl) (pe_op op_cat (pv 3) (pe_lc (own := [("_law_j", 6)])  rfl scGWeaving.nd (pi_range1 rfl T.free_range (pa_cons pe_int pa_nil)) (blkOk_by (N := nGWeaving) (sc := defScope sGWeaving) (by decide +kernel)) (fun _ _ _ _ _ => pg_name (i := 6) scGWeaving.nd rfl (Or.inl rfl)) (fun _ _ _ _ _ => pts_nil) (fun _ _ _ _ _ => pe_ix (ix_tupK (K := K) rfl) (pe_ix (ix_tupK (K := K) rfl) (pe_ix (ix_tupK (K := K) rfl) (pv 2) pe_int (fun _ _ => rfl)) (C8.pe_c cGTake hr (by omega) rfl (pa_cons (pv 5) (pa_cons (pe_callB (call_len_seqK (K := K) rfl) (by rfl) T.free_len PySem.boot_len (pa_cons (pe_ix (ix_tupK (K := K) rfl) (pv 2) pe_int (fun _ _ => rfl)) pa_nil)) pa_nil))) (fun _ _ => rfl)) pe_int (fun _ _ => rfl))))))))
      (pss_one (ps_ret (pv 3))))), ?_⟩
  refine ⟨sz, fun fl nfl => ?_⟩
  have s0 : Same H (upd H fl (.lst [])) := same_new nfl _
  have h0 : upd H fl (.lst []) fl = some (.lst []) := upd_same
  generalize upd H fl (.lst []) = H0 at s0 h0
  have J : (0 : Int) ≤ (if (63 : Int) < ((ns.map V.int).length : Int) then 63 else ((ns.map V.int).length : Int)) ∧ (if (63 : Int) < ((ns.map V.int).length : Int) then 63 else ((ns.map V.int).length : Int)) ≤ 63 := by
    rw [List.length_map]
    split <;> omega
  have Jn : ((if (63 : Int) < ((ns.map V.int).length : Int) then 63 else ((ns.map V.int).length : Int)) - 7).toNat ≤ 56 := by
    rw [List.length_map]
    split <;> omega
  refine ⟨_, rfl, _, rfl, a, _, rfl, .inl (sql_same ha s0), _, _, rfl, _, _, rfl, ⟨by decide, by decide, Int.le_trans (by decide) J.1, Int.lt_of_le_of_lt J.2 (by decide)⟩, for_it walk_range (fun i σ H' => Same H H' ∧ ∃ (c4 c5 : Option V) (l : Addr) (xs : List Str), σ = [some (.ref a), some (.int 7), some (.ref ma), some (.ref l), c4, c5, none] ∧ H l = none ∧ H' l = some (.lst (xs.map V.str)) ∧ (∀ x ∈ xs, ∃ h ∈ m.hs, h.nm = x) ∧ xs.length = 5 * i)
    ⟨s0, none, none, fl, [], rfl, nfl, h0, fun x hx => absurd hx List.not_mem_nil, rfl⟩ (fun _ _ _ _ _ => trivial) ?_ ?_⟩
  · rintro i y σ H1 H2 hi ⟨s1, c4, c5, l, xs, rfl, nl, hl, xok, xln⟩ ⟨rfl, rfl⟩
    have hi56 : i < 56 := Nat.lt_of_lt_of_le hi Jn
    have av : [V.ref a, V.int ((7 : Int) + (i : Int))] = [V.ref a, V.int ((7 + i : Nat) : Int)] := by rw [show (7 : Int) + (i : Int) = ((7 + i : Nat) : Int) by omega]
    refine ⟨_, rfl, _, rfl, a, ns, 7 + i, av, sql_same ha s1, nsl, by omega, fun f H3 nf s3 fd3 => ?_⟩
    have s13 := Same.tr s1 s3
    have nfH : H f = none := by
      cases e : H f with
      | none => rfl
      | some o => rw [s1 _ _ e] at nf; cases nf
    have lf : l ≠ f := fun z => by rw [z, nf] at hl; cases hl
    have hl3 := s3 _ _ hl
    refine ⟨_, rfl, 5, rfl, by decide, by decide, fun D nD => ?_⟩
    have Df := fd3.ne nD
    have lD : l ≠ D := fun z => by rw [z, nD] at hl3; cases hl3
    have nDH : H D = none := by
      cases e : H D with
      | none => rfl
      | some o => rw [s13 _ _ e] at nD; cases nD
    have sD : Same H3 (upd H3 D (.lst [])) := same_new nD _
    refine lc_it walk_range (fun j H' => Same H H' ∧ Feed H' f ∧ H' l = some (.lst (xs.map V.str)) ∧ ∃ ys : List Str, H' D = some (.lst (ys.map V.str)) ∧ (∀ x ∈ ys, ∃ h ∈ m.hs, h.nm = x) ∧ ys.length = j)
      ⟨Same.tr s13 sD, fd3.same sD, sD _ _ hl3, [], upd_same, fun x hx => absurd hx List.not_mem_nil, rfl⟩ (fun _ _ _ _ => trivial) ?_ ?_
    · rintro j y H4 H5 hj ⟨s4, fd4, hl4, ys, hD, yok, yln⟩ ⟨rfl, rfl⟩
      have hj5 : j < 5 := hj
      refine ⟨rfl, lcYes ?_⟩
      refine ⟨_, rfl, _, _, _, _, rfl, rfl, SqT.of (s4 _ _ hma), at2, _, rfl, _, rfl, _, _, _, _, rfl, rfl, SqT.of (s4 _ _ hma), at2, ca, _, rfl, .inr (SqT.of (s4 _ _ hca)), f, _, rfl, fd4, by omega, by omega, fun r H6 r0 r1 g6 => ?_⟩
      have s6 : Same H H6 := Go.new s4 nfH g6
      obtain ⟨h, hh, hm, _⟩ := drawn (l := m.hs) r0 (by omega)
      obtain ⟨z, hz, iz⟩ := izs.at (i := r.toNat) (d := h.d) (by rw [List.getElem?_map, hh]; rfl)
      obtain ⟨t, w1, w2, w3, rfl, ht, k1, _⟩ := (iz.mono (ts_same s6)).t3
      cases k1.strE
      have az : atI zs r = some (.ref t) := by
        have e : r = ((r.toNat : Nat) : Int) := by omega
        rw [e]
        exact atI_nat hz
      have hD6 := g6.at hD Df
      refine ⟨_, _, _, _, rfl, rfl, SqT.of (s6 _ _ hca), az, _, _, _, _, rfl, rfl, SqT.of ht, at0, _, hD6, small1000 (by rw [List.length_map]; omega), same_upd s6 nDH _, g6.2.put Df, by rw [upd_ne lD]; exact g6.at hl4 lf, ys ++ [h.nm], by rw [List.map_append]; exact upd_same, fun x hx => ?_, by rw [List.length_append, yln]; rfl⟩
      rcases List.mem_append.mp hx with hx | hx
      · exact yok x hx
      · rw [List.mem_singleton.mp hx]; exact ⟨h, hm, rfl⟩
    · rintro H4 ⟨s4, fd4, hl4, ys, hD, yok, yln⟩
      have yl5 : ys.length = 5 := yln
      refine ⟨l, D, _, _, rfl, rfl, hl4, hD, Nat.le_of_lt (small1000 (by rw [List.length_map, List.length_map]; omega)), fun p np => ?_⟩
      have npH : H p = none := by
        cases e : H p with
        | none => rfl
        | some o => rw [s4 _ _ e] at np; cases np
      refine ⟨Same.tr s4 (same_new np _), _, _, p, xs ++ ys, rfl, npH, by rw [List.map_append]; exact upd_same, fun x hx => ?_, by rw [List.length_append, xln, yl5]; omega⟩
      rcases List.mem_append.mp hx with hx | hx
      · exact xok x hx
      · exact yok x hx
  · rintro σ H1 ⟨s1, c4, c5, l, xs, rfl, nl, hl, xok, xln⟩
    refine ⟨_, rfl, q l xs H1 s1 nl hl xok ?_⟩
    rw [xln]
    exact Nat.le_trans (Nat.mul_le_mul_left 5 Jn) (by decide)
end
end Sw
set_option Elab.async false
set_option linter.all false
set_option maxRecDepth 100000
set_option maxHeartbeats 4000000
/-! The law's own stands. -/
namespace Sw
open PySem PySem.Spec PyProof.Rows L2
section
variable {Hb H H' : Hp} {hs : List Hd} {cs : List Ch} {x : PX} {S : St} {f : Addr}
theorem Go.F (g : Go f H H') : ∀ b o, H b = some o → b ≠ f → H' b = some o := fun b o e n => g.at e n
theorem D0.eqv {S' : St} (p : D0 Hb H hs x S) (e : ∀ k ∈ hs, (S'.hs k.nm).at_ = (S.hs k.nm).at_ ∧ (S'.hs k.nm).held = (S.hs k.nm).held) : D0 Hb H hs x S' := ⟨p.d, fun h hh => by
  rw [(e h hh).1, (e h hh).2]
  exact p.e h hh⟩
theorem D2.eqv {S' : St} (p : D2 Hb H hs x S) (e : ∀ k ∈ hs, (S'.hs k.nm).notes = (S.hs k.nm).notes) : D2 Hb H hs x S' := ⟨p.d, fun h hh => by
  rw [e h hh]
  exact p.e h hh⟩
theorem D0.go (p : D0 Hb H hs x S) (hf : Feed H f) (g : Go f H H') : D0 Hb H' hs x S := by
  obtain ⟨a, b, h1, _⟩ := id hf
  refine p.keep g.F h1 (fun _ z => by cases z) (fun z => by have := p.d; rw [← z, h1] at this; cases this) fun h hh z => ?_
  obtain ⟨_, ⟨k, h2, _⟩, _⟩ := p.e h hh
  rw [← z, h1] at h2
  cases h2
theorem D1.go (p : D1 Hb H cs x S) (hb : Feed Hb f) (hf : Feed H f) (g : Go f H H') : D1 Hb H' cs x S := by
  obtain ⟨a, b, h1, _⟩ := id hf
  refine p.keep g.F h1 (fun _ z => by cases z) (fun z => by have := p.d; rw [← z, h1] at this; cases this) fun c hc z => ?_
  exact hb.ne (p.e c hc).2.2 z.symm
theorem D2.go (p : D2 Hb H hs x S) (hb : Feed Hb f) (hf : Feed H f) (g : Go f H H') : D2 Hb H' hs x S := by
  obtain ⟨a, b, h1, _⟩ := id hf
  refine p.keep g.F (fun z => by have := p.d; rw [← z, h1] at this; cases this) fun h hh z => ?_
  exact hb.ne (p.e h hh).2.2 z.symm
theorem PartsG.go (p : PartsG Hb H hs cs x S) (hb : Feed Hb f) (hf : Feed H f) (g : Go f H H') : PartsG Hb H' hs cs x S :=
  ⟨g.at p.l (hb.ne (p.fr _ (by simp))), p.p0.go hf g, p.p1.go hb hf g, p.p2.go hb hf g, g.at p.p3 (hb.ne (p.fr _ (by simp))), p.ne, p.fr⟩
end
section
variable {P : Program} {w : World} {K : PySem.W.Frag} {mg : Str → Option Value} {base : Heap}
def spGOwn : Sp := fun vs H Q _ => ∃ (f : Addr) (mv : V) (m : Make), vs = [.ref f, mv] ∧ Feed H f ∧ Im H mv m.d ∧ MOk m ∧ ∀ (x : PX) (S : St) (H' : Hp), Go f H H' → PartsG H H' m.hs m.cs x S → SOk m S → Bnd m 3 S → Q (.ref x.l) H'
theorem calGOwn (T : Txt K mg) : C8.Cal P w K mg base 8 "_law_own" spGOwn [] := by
  have cGTake := calGTake (P := P) (w := w) (base := base) T
  have cGNumber := calGNumber (P := P) (w := w) (base := base) T
  have cGValue := calGValue (P := P) (w := w) (base := base) T 5
  refine mkCal (k := 7) T.fGOwn scGOwn T.glo__law_own (fun _ _ _ _ _ _ us hl => match us, hl with | [_, _], _ => rfl) (fun vs H Q E h => ?_) (fun cdv A outer s H vs Q E hr h => ?_)
  · obtain ⟨f, mv, m, rfl, _⟩ := h
    rfl
  obtain ⟨f, mv, m, rfl, hf, im, ok, q⟩ := h
  have hu := hu_of hr
  obtain ⟨ma, v1, v2, v3, rfl, hma, i1, i2, i3⟩ := id im.t3
  obtain ⟨ca, zs, rfl, hca, izs⟩ := i3.tupE
  obtain ⟨ea, ws, rfl, hea, iws⟩ := i2.tupE
  have zl := izs.length
  have wl := iws.length
  rw [List.length_map] at zl wl
  have hl100 := ok.hl
  have cl100 := ok.cl
  have nf : ∀ {b : Addr} {us : List V}, H b = some (.tup us) → b ≠ f := fun {b us} e z => by
    obtain ⟨x, y, h1, _⟩ := hf
    rw [← z, e] at h1
    cases h1
  refine ⟨_, PSs.nox (pss_cons (ps_set (i := 2) scGOwn.nd rfl (Or.inl rfl) (pe_lst (pa_cons pe_dnewK (pa_cons pe_dnewK (pa_cons pe_dnewK (pa_cons pe_dnewK pa_nil))))))
      (pss_cons (ps_for PassesOwn.never rfl (pi_tup (pe_ix (ix_tupK (K := K) rfl) (pv 1) pe_int (fun _ _ => rfl))) (pg_tupK (K := K) (n := 3) rfl rfl (pgs_cons (pg_name (i := 3) scGOwn.nd rfl (Or.inl rfl)) (pgs_cons (pg_name (i := 4) scGOwn.nd rfl (Or.inl rfl)) (pgs_cons (pg_name (i := 5) scGOwn.nd rfl (Or.inl rfl)) pgs_nil))))
        (pss_cons (ps_set (i := 6) scGOwn.nd rfl (Or.inl rfl) pe_dnewK)
          (pss_cons (ps_for PassesOwn.never rfl (pi_tup (pv 4)) (pg_tupK (K := K) (n := 2) rfl rfl (pgs_cons (pg_name (i := 7) scGOwn.nd rfl (Or.inl rfl)) (pgs_cons (pg_name (i := 8) scGOwn.nd rfl (Or.inr rfl)) pgs_nil)))
            (pss_one (ps_dput hu (pv 6) (pv 7) (C8.pe_c cGValue hr (by omega) rfl (pa_cons (pv 0) (pa_cons (pe_ix (ix_tupK (K := K) rfl) (pv 1) pe_int (fun _ _ => rfl)) (pa_cons (pv 8) pa_nil)))) rfl)))
          (pss_cons (ps_dput hu (pe_ix (ix_listK (K := K) rfl) (pv 2) pe_int (fun _ _ => rfl)) (pv 3) (pe_tup (pa_cons (C8.pe_c cGTake hr (by omega) rfl (pa_cons (pv 0) (pa_cons (pe_callB (call_len_seqK (K := K) rfl) (by rfl) T.free_len PySem.boot_len (pa_cons (pv 5) pa_nil)) pa_nil))) (pa_cons (pv 6) pa_nil))) rfl)
          (pss_cons (ps_dput hu (pe_ix (ix_listK (K := K) rfl) (pv 2) pe_int (fun _ _ => rfl)) (pv 3) (pe_lc (own := [("_law_k", 12)])  rfl scGOwn.nd (pi_range1 rfl T.free_range (pa_cons (C8.pe_c cGTake hr (by omega) rfl (pa_cons (pv 0) (pa_cons pe_int pa_nil))) pa_nil)) (blkOk_by (N := nGOwn) (sc := defScope sGOwn) (by decide +kernel)) (fun _ _ _ _ _ => pg_name (i := 12) scGOwn.nd rfl (Or.inl rfl)) (fun _ _ _ _ _ => pts_nil) (fun _ _ _ _ _ => C8.pe_c cGNumber hr (by omega) rfl (pa_cons (pv 0) pa_nil))) rfl)
          (pss_one (ps_dput hu (pe_ix (ix_listK (K := K) rfl) (pv 2) pe_int (fun _ _ => rfl)) (pv 3) (C8.pe_c cGTake hr (by omega) rfl (pa_cons (pv 0) (pa_cons pe_int pa_nil))) rfl)))))))
      (pss_cons (ps_for PassesOwn.never rfl (pi_tup (pe_ix (ix_tupK (K := K) rfl) (pv 1) pe_int (fun _ _ => rfl))) (pg_tupK (K := K) (n := 4) rfl rfl (pgs_cons (pg_name (i := 9) scGOwn.nd rfl (Or.inl rfl)) (pgs_cons (pg_name (i := 10) scGOwn.nd rfl (Or.inl rfl)) (pgs_cons (pg_name (i := 11) scGOwn.nd rfl (Or.inl rfl)) (pgs_cons (pg_name (i := 8) scGOwn.nd rfl (Or.inr rfl)) pgs_nil)))))
        (pss_one (ps_dput hu (pe_ix (ix_listK (K := K) rfl) (pv 2) pe_int (fun _ _ => rfl)) (pv 9) (pe_lc (own := [("_law_k", 12)])  rfl scGOwn.nd (pi_range1 rfl T.free_range (pa_cons (C8.pe_c cGTake hr (by omega) rfl (pa_cons (pv 0) (pa_cons pe_int pa_nil))) pa_nil)) (blkOk_by (N := nGOwn) (sc := defScope sGOwn) (by decide +kernel)) (fun _ _ _ _ _ => pg_name (i := 12) scGOwn.nd rfl (Or.inl rfl)) (fun _ _ _ _ _ => pts_nil) (fun _ _ _ _ _ => C8.pe_c cGValue hr (by omega) rfl (pa_cons (pv 0) (pa_cons (pe_ix (ix_tupK (K := K) rfl) (pv 1) pe_int (fun _ _ => rfl)) (pa_cons (pv 8) pa_nil))))) rfl)))
      (pss_one (ps_ret (pv 2)))))), ?_⟩
  intro d0 n0 d1 n1 d2 n2 d3 n3
  refine ⟨sz, fun l nl => ?_⟩
  obtain ⟨s0, P0⟩ := parts0 (S := ⟨fun _ => ⟨0, [], [], 0⟩, fun _ => []⟩) n0 n1 n2 n3 nl
  generalize upd (upd (upd (upd (upd H d0 (.dK [])) d1 (.dK [])) d2 (.dK [])) d3 (.dK [])) l (.lst [.ref d0, .ref d1, .ref d2, .ref d3]) = H0 at s0 P0
  have fr := P0.fr
  have fl : H l = none := fr l (by simp)
  have f0 : H d0 = none := fr d0 (by simp)
  have f1 : H d1 = none := fr d1 (by simp)
  have f2 : H d2 = none := fr d2 (by simp)
  have f3 : H d3 = none := fr d3 (by simp)
  have ne := P0.ne
  have lf := hf.ne fl
  have d0f := hf.ne f0
  have d1f := hf.ne f1
  have d2f := hf.ne f2
  have d3f := hf.ne f3
  have G0 := Go.of hf s0
  -- one of the four, put into
  have putG : ∀ {H' : Hp} {d : Addr} {o : HO}, Go f H H' → H d = none → Go f H (upd H' d o) := fun {H' d o} g n => ⟨fun b u e nn => by
    rw [upd_ne (fun z => by rw [z, n] at e; cases e)]
    exact g.1 b u e nn, g.2.put (hf.ne n)⟩
  have new : ∀ {H' : Hp} {b : Addr}, Go f H H' → H' b = none → H b = none := fun {H' b} g n => by
    cases e : H b with
    | none => rfl
    | some o =>
      by_cases z : b = f
      · obtain ⟨x, y, h1, _⟩ := g.2
        rw [z, h1] at n
        cases n
      · rw [g.at e z] at n
        cases n
  refine ⟨_, rfl, _, _, _, _, rfl, rfl, SqT.of (s0 _ _ hma), at2, ca, rfl, ⟨_, SqT.of (s0 _ _ hca)⟩, for_it (walk_tup (K := K) (a := ca) (xs := zs)) (fun i σ H' => (∃ c3 c4 c5 c6 c7 c8 c9 c10 c11, σ = [some (.ref f), some (.ref ma), some (.ref l), c3, c4, c5, c6, c7, c8, c9, c10, c11, none]) ∧ Go f H H' ∧
      ∃ ts td tl cl S, PartsG H H' (m.hs.take i) [] ⟨l, d0, d1, d2, d3, ts, td, tl, cl⟩ S ∧ (∀ h ∈ m.hs.take i, HSOk m.ks h (S.hs h.nm) ∧ (S.hs h.nm).notes.length ≤ 3) ∧ S.q = fun _ => [])
    ⟨⟨_, _, _, _, _, _, _, _, _, rfl⟩, G0, _, _, _, _, _, P0, fun h hh => absurd hh List.not_mem_nil, rfl⟩ (fun i σ H' _ hP => SqT.of (hP.2.1.at hca (nf hca))) ?_ ?_⟩
  · rintro i y σ H1 H2 hi ⟨⟨c3, c4, c5, c6, c7, c8, c9, c10, c11, rfl⟩, G1, ts, td, tl, cl, S, p, sok, sq⟩ ⟨rfl, hy⟩
    obtain ⟨e, he, ie⟩ := izs.of hy
    rw [List.getElem?_map] at he
    obtain ⟨h, hh, rfl⟩ := Option.map_eq_some_iff.mp he
    have hm : h ∈ m.hs := List.mem_of_getElem? hh
    have hok := ok.hd h hm
    have nd : ∀ k ∈ m.hs.take i, k.nm ≠ h.nm := fun k hk e => nodup_take_ne (f := (·.nm)) ok.hn hh (by rw [← e]; exact List.mem_map_of_mem (f := (·.nm)) hk)
    have tk : m.hs.take (i + 1) = m.hs.take i ++ [h] := by rw [List.take_succ, hh]; rfl
    have tl100 : (m.hs.take i).length ≤ 100 := by rw [List.length_take]; omega
    have lnl : ∀ {f : Str → Addr}, (lnD ((m.hs.take i).map fun h => (h.nm, f h.nm))).length < sizeLine := fun {f} => small1000 (by rw [lnD, List.length_map, List.length_map]; omega)
    obtain ⟨ta, w1, w2, w3, rfl, hta, k1, k2, k3⟩ := (ie.mono (hf.ts G1)).t3
    cases k1.strE
    obtain ⟨ba, bs, rfl, hba, ibs⟩ := k2.tupE
    obtain ⟨ra, rs, rfl, hra, irs⟩ := k3.tupE
    have bl := ibs.length
    rw [List.length_map] at bl
    have rl := irs.length
    have hb5 := hok.bl
    have r0 : 0 < h.rows.length := List.length_pos_iff.mpr hok.rows.1
    have r100 := hok.rows.2.1
    refine ⟨_, _, rfl, SqT.of hta, rfl, _, _, rfl, _, _, rfl, _, _, rfl, rfl, ?_⟩
    intro hp nhp
    have hpH := new G1 nhp
    have hpf := hf.ne hpH
    have s3 : Same H2 (upd H2 hp (.dK [])) := same_new nhp _
    have hp3 : upd H2 hp (.dK []) hp = some (.dK []) := upd_same
    have tf2 : ∀ {b : Addr} {us : List V}, H2 b = some (.tup us) → b ≠ f := fun {b us} e z => by
      obtain ⟨x, y, h1, _⟩ := G1.2
      rw [← z, e] at h1
      cases h1
    generalize upd H2 hp (.dK []) = H3 at s3 hp3
    have g3 : Go f H2 H3 := Go.of G1.2 s3
    have hpd : hp ∉ [d0, d1, d2, d3] := fun hmem => by
      simp only [List.mem_cons, List.not_mem_nil, or_false] at hmem
      rcases hmem with z | z | z | z
      · have : H2 d0 = _ := p.p0.d; rw [← z, nhp] at this; cases this
      · have : H2 d1 = _ := p.p1.d; rw [← z, nhp] at this; cases this
      · have : H2 d2 = _ := p.p2.d; rw [← z, nhp] at this; cases this
      · have : H2 d3 = _ := p.p3; rw [← z, nhp] at this; cases this
    -- its boxes
    refine ⟨_, rfl, ba, rfl, ⟨_, SqT.of (s3 _ _ hba)⟩, for_it (walk_tup (K := K) (a := ba) (xs := bs)) (fun j σ H' => (∃ c7 c8 c9 c10 c11, σ = [some (.ref f), some (.ref ma), some (.ref l), some (.str h.nm), some (.ref ba), some (.ref ra), some (.ref hp), c7, c8, c9, c10, c11, none]) ∧ (∀ b o, H2 b = some o → b ≠ f → H' b = some o) ∧ Feed H' f ∧
        ∃ kvs r, H' hp = some (.dK kvs) ∧ Bx H' kvs r ∧ EnvOk m.ks (h.bx.take j) r ∧ r.map (·.1) = (h.bx.take j).map (·.1))
      ⟨⟨_, _, _, _, _, rfl⟩, g3.F, g3.2, [], [], hp3, .nil, (fun p hp => by rw [List.take_zero] at hp; cases hp), rfl⟩ (fun j σ H' _ hP => SqT.of (hP.2.1 _ _ hba (tf2 hba))) ?_ ?_⟩
    · rintro j y σ H4 H5 hj ⟨⟨c7, c8, c9, c10, c11, rfl⟩, F4, fd4, kvs, r, hhp, bx, eo, rn⟩ ⟨rfl, hy⟩
      have T4 : TS H2 H5 := fun b us e => F4 _ _ e (tf2 e)
      obtain ⟨e, he, ie⟩ := ibs.of hy
      rw [List.getElem?_map] at he
      obtain ⟨b, hb, rfl⟩ := Option.map_eq_some_iff.mp he
      have bm : b ∈ h.bx := List.mem_of_getElem? hb
      obtain ⟨tb, w1, w2, rfl, htb, j1, j2⟩ := (ie.mono T4).t2
      cases j1.strE
      cases j2.strE
      have rlen : r.length = j := by
        have := congrArg List.length rn
        rw [List.length_map, List.length_map, List.length_take] at this
        omega
      have kl := bx.length
      refine ⟨_, _, rfl, SqT.of htb, rfl, _, _, rfl, _, _, rfl, rfl, ?_⟩
      refine ⟨_, rfl, _, rfl, _, _, _, _, rfl, rfl, SqT.of (T4 _ _ (hf.ts G1 _ _ hma)), at0, _, rfl, f, v1, b.2, m.ks, 4, rfl, rfl, fd4, (show KsAt H5 v1 m.ks from (i1.mono (hf.ts G1)).mono T4), ok.ks, (hok.bk b bm).mono ok.ks.len, fun v d H6 g6 iv vok => ?_⟩
      have hhp6 := g6.at hhp hpf
      have T6 := fd4.ts g6
      refine ⟨_, rfl, _, rfl, hp, _, rfl, DPut.k (k := Sum.inr b.1) hhp6 (small1000 (by omega)), ?_⟩
      have fresh : b.1 ∉ r.map (·.1) := by rw [rn]; exact nodup_take_ne hok.bn hb
      have tk2 : h.bx.take (j + 1) = h.bx.take j ++ [b] := by rw [List.take_succ, hb]; rfl
      have tsu : TS H6 (upd H6 hp (.dK (putK kvs (Sum.inr b.1) v))) := fun c us e => by rw [upd_ne (fun z => by rw [z, hhp6] at e; cases e)]; exact e
      refine ⟨⟨_, _, _, _, _, rfl⟩, fun c o e n => ?_, g6.2.put hpf, putK kvs (Sum.inr b.1) v, putA r b.1 d, upd_same, ((bx.mono T6).put iv).mono tsu, ?_, ?_⟩
      · rw [upd_ne (fun z => by rw [z, nhp] at e; cases e)]
        exact g6.at (F4 c o e n) n
      · rw [tk2]
        exact eo.put (fun q hq z => fresh (by rw [rn, ← z]; exact List.mem_map_of_mem (f := (·.1)) hq)) vok
      · rw [putA_new fresh, tk2, List.map_append, List.map_append, rn]
        rfl
    · rintro σ H4 ⟨⟨c7, c8, c9, c10, c11, rfl⟩, F4, fd4, kvs, r, hhp, bx, eo, rn⟩
      rw [List.take_of_length_le (by omega)] at eo rn
      have g4 : Go f H2 H4 := ⟨fun b o e n => F4 b o e (by simpa using n), fd4⟩
      have G4 := G1.tr g4
      have p4 := p.go hf G1.2 g4
      have hra4 := g4.at hra (tf2 hra)
      have l4 : H4 l = some (.lst [.ref d0, .ref d1, .ref d2, .ref d3]) := p4.l
      -- the stand
      refine ⟨_, rfl, _, rfl, ra, _, rfl, .inr (SqT.of hra4), f, _, rfl, G4.2, by omega, by omega, fun r5 H5 r50 r51 g5 => ⟨_, rfl, sz, fun t nt => ?_⟩⟩
      have G5 := G4.tr g5
      have rt : (r5.toNat : Int) = r5 := by omega
      have s6 : Same H5 (upd H5 t (.tup [.int r5, .ref hp])) := same_new nt _
      have ht6 : upd H5 t (.tup [.int r5, .ref hp]) t = some (.tup [.int r5, .ref hp]) := upd_same
      generalize upd H5 t (.tup [.int r5, .ref hp]) = H6 at s6 ht6
      have g6 : Go f H4 H6 := g5.sm s6
      have G6 := G4.tr g6
      have p6 := p4.go hf G4.2 g6
      have hp6 := g6.at hhp hpf
      have bx6 := bx.mono (G4.2.ts g6)
      have l6 : H6 l = some (.lst [.ref d0, .ref d1, .ref d2, .ref d3]) := p6.l
      have d06 : H6 d0 = some (.dK (lnD ((m.hs.take i).map fun h => (h.nm, ts h.nm)))) := p6.p0.d
      have eS1 : ∀ k ∈ m.hs.take i, (⟨fun n => if n = h.nm then ⟨r5.toNat, r, [], 0⟩ else S.hs n, S.q⟩ : St).hs k.nm = S.hs k.nm := fun k hk => if_neg (nd k hk)
      have q0 := PartsG.put0 p6.p0 nd (S' := ⟨fun n => if n = h.nm then ⟨r5.toNat, r, [], 0⟩ else S.hs n, S.q⟩) eS1 (t := t) (d := hp) (kvs := kvs) (by simp only [if_pos]; rw [rt]; exact ht6) hp6 (by simp only [if_pos]; exact bx6) hpd hpH
      refine ⟨_, rfl, _, _, _, _, rfl, rfl, SqL.of l6, at0, _, rfl, d0, _, rfl, DPut.k (k := Sum.inr h.nm) d06 lnl, ?_⟩
      have F7 : ∀ b u, H6 b = some u → b ≠ d0 → upd H6 d0 (.dK (putK (lnD ((m.hs.take i).map fun h => (h.nm, ts h.nm))) (Sum.inr h.nm) (.ref t))) b = some u := fun b u e n => by rw [upd_ne n]; exact e
      have G7 : Go f H (upd H6 d0 (.dK (putK (lnD ((m.hs.take i).map fun h => (h.nm, ts h.nm))) (Sum.inr h.nm) (.ref t)))) := putG G6 f0
      have q0 : D0 H (upd H6 d0 (.dK (putK (lnD ((m.hs.take i).map fun h => (h.nm, ts h.nm))) (Sum.inr h.nm) (.ref t)))) (m.hs.take i ++ [h]) ⟨l, d0, d1, d2, d3, fun n => if n = h.nm then t else ts n, fun n => if n = h.nm then hp else td n, tl, cl⟩ ⟨fun n => if n = h.nm then ⟨r5.toNat, r, [], 0⟩ else S.hs n, S.q⟩ := q0
      generalize upd H6 d0 (.dK (putK (lnD ((m.hs.take i).map fun h => (h.nm, ts h.nm))) (Sum.inr h.nm) (.ref t))) = H7 at F7 G7 q0
      have q1 := p6.p1.keep F7 d06 (fun _ z => by cases z) ne.n01 (p6.p1.nd d06)
      have q2 := p6.p2.keep F7 ne.n02 (p6.p2.nd d06)
      have q3 : H7 d3 = some (.dK (inD (m.hs.take i) S)) := F7 _ _ p6.p3 (Ne.symm ne.n03)
      have ql := F7 _ _ l6 (fun z => by rw [z, d06] at l6; cases l6)
      -- what it told
      refine ⟨_, rfl, f, 3, rfl, G7.2, by decide, by decide, fun r8 H8 r80 r81 g8 => ⟨_, rfl, by omega, by omega, fun D nD => ?_⟩⟩
      have G8 := G7.tr g8
      have DH := new G8 nD
      have Df := hf.ne DH
      refine lc_it walk_range (fun j H' => Go f H8 H' ∧ ∃ zs : List Int, H' D = some (.lst (zs.map V.int)) ∧ zs.length = j) ⟨Go.of G8.2 (same_new nD _), [], upd_same, rfl⟩ (fun _ _ _ _ => trivial) ?_ ?_
      · rintro j y H9 H9' hj ⟨g9, zs, hD, zln⟩ ⟨rfl, rfl⟩
        have hj3 : j < 3 := by omega
        refine ⟨rfl, lcYes ?_⟩
        refine ⟨_, rfl, f, rfl, g9.2, fun z H10 z0 z1 g10 => ?_⟩
        have hD10 := g10.at hD Df
        refine ⟨_, hD10, small1000 (by rw [List.length_map]; omega), ⟨fun b o e n => ?_, (g9.tr g10).2.put Df⟩, zs ++ [z], by rw [List.map_append]; exact upd_same, by rw [List.length_append, zln]; rfl⟩
        rw [upd_ne (fun z => by rw [z, nD] at e; cases e)]
        exact (g9.tr g10).1 b o e n
      · rintro H9 ⟨g9, notes, hD, nln⟩
        have n3 : notes.length ≤ 3 := by rw [nln]; omega
        have g79 := g8.tr g9
        have G9 := G7.tr g79
        have u0 := q0.go G7.2 g79
        have u1 := q1.go hf G7.2 g79
        have u2 := q2.go hf G7.2 g79
        have u3 := g79.at q3 d3f
        have ul := g79.at ql lf
        have d29 : H9 d2 = some (.dK (lnD ((m.hs.take i).map fun h => (h.nm, tl h.nm)))) := u2.d
        have Dl : D ≠ l := fun z => by rw [z, fl] at DH; have := ql; rw [← z] at this; have h8 := g8.at this Df; rw [nD] at h8; cases h8
        have eS2 : ∀ k ∈ m.hs.take i, (⟨fun n => if n = h.nm then ⟨r5.toNat, r, notes, 0⟩ else S.hs n, S.q⟩ : St).hs k.nm = S.hs k.nm := fun k hk => if_neg (nd k hk)
        have r2 := PartsG.put2 u2 nd (S' := ⟨fun n => if n = h.nm then ⟨r5.toNat, r, notes, 0⟩ else S.hs n, S.q⟩) eS2 (t := D) (by simp only [if_pos]; exact hD) Dl DH
        refine ⟨_, rfl, _, _, _, _, rfl, rfl, SqL.of ul, at2, _, rfl, d2, _, rfl, DPut.k (k := Sum.inr h.nm) d29 lnl, ?_⟩
        have F10 : ∀ b u, H9 b = some u → b ≠ d2 → upd H9 d2 (.dK (putK (lnD ((m.hs.take i).map fun h => (h.nm, tl h.nm))) (Sum.inr h.nm) (.ref D))) b = some u := fun b u e n => by rw [upd_ne n]; exact e
        have G10 : Go f H (upd H9 d2 (.dK (putK (lnD ((m.hs.take i).map fun h => (h.nm, tl h.nm))) (Sum.inr h.nm) (.ref D)))) := putG G9 f2
        have r2 : D2 H (upd H9 d2 (.dK (putK (lnD ((m.hs.take i).map fun h => (h.nm, tl h.nm))) (Sum.inr h.nm) (.ref D)))) (m.hs.take i ++ [h]) ⟨l, d0, d1, d2, d3, ts, td, fun n => if n = h.nm then D else tl n, cl⟩ ⟨fun n => if n = h.nm then ⟨r5.toNat, r, notes, 0⟩ else S.hs n, S.q⟩ := r2
        generalize upd H9 d2 (.dK (putK (lnD ((m.hs.take i).map fun h => (h.nm, tl h.nm))) (Sum.inr h.nm) (.ref D))) = H10 at F10 G10 r2
        have r0' := u0.keep F10 d29 (fun _ z => by cases z) (Ne.symm ne.n02) (fun k hk z => (u0.e k hk).2.2.1 (by rw [← z]; simp))
        have r1' := u1.keep F10 d29 (fun _ z => by cases z) (Ne.symm ne.n12) (u1.nd d29)
        have r3' := F10 _ _ u3 (Ne.symm ne.n23)
        have rl' := F10 _ _ ul (fun z => by rw [z, d29] at ul; cases ul)
        -- its count
        refine ⟨_, rfl, f, 1000, rfl, G10.2, by decide, by decide, fun r11 H11 r110 r111 g11 => ?_⟩
        have G11 := G10.tr g11
        have v0 := r0'.go G10.2 g11
        have v1' := r1'.go hf G10.2 g11
        have v2' := r2.go hf G10.2 g11
        have v3' := g11.at r3' d3f
        have vl := g11.at rl' lf
        refine ⟨_, rfl, _, _, _, _, rfl, rfl, SqL.of vl, at3', _, rfl, d3, _, rfl, DPut.k (k := Sum.inr h.nm) v3' (small1000 (by unfold inD; rw [List.length_map]; omega)), ?_⟩
        have ip := inD_put (S := S) nd (S' := ⟨fun n => if n = h.nm then ⟨r5.toNat, r, notes, r11⟩ else S.hs n, S.q⟩) (fun k hk => if_neg (nd k hk))
        simp only [if_pos] at ip
        rw [ip]
        have F12 : ∀ b u, H11 b = some u → b ≠ d3 → upd H11 d3 (.dK (inD (m.hs.take i ++ [h]) ⟨fun n => if n = h.nm then ⟨r5.toNat, r, notes, r11⟩ else S.hs n, S.q⟩)) b = some u := fun b u e n => by rw [upd_ne n]; exact e
        have G12 : Go f H (upd H11 d3 (.dK (inD (m.hs.take i ++ [h]) ⟨fun n => if n = h.nm then ⟨r5.toNat, r, notes, r11⟩ else S.hs n, S.q⟩))) := putG G11 f3
        have t3 : upd H11 d3 (.dK (inD (m.hs.take i ++ [h]) ⟨fun n => if n = h.nm then ⟨r5.toNat, r, notes, r11⟩ else S.hs n, S.q⟩)) d3 = some (.dK (inD (m.hs.take i ++ [h]) ⟨fun n => if n = h.nm then ⟨r5.toNat, r, notes, r11⟩ else S.hs n, S.q⟩)) := upd_same
        generalize upd H11 d3 (.dK (inD (m.hs.take i ++ [h]) ⟨fun n => if n = h.nm then ⟨r5.toNat, r, notes, r11⟩ else S.hs n, S.q⟩)) = H12 at F12 G12 t3
        have t0 := v0.keep F12 v3' (fun _ z => by cases z) (Ne.symm ne.n03) (fun k hk z => (v0.e k hk).2.2.1 (by rw [← z]; simp))
        have t1 := v1'.keep F12 v3' (fun _ z => by cases z) (Ne.symm ne.n13) (v1'.nd v3')
        have t2 := v2'.keep F12 (Ne.symm ne.n23) (v2'.nd v3')
        have tl12 := F12 _ _ vl (fun z => by rw [z, v3'] at vl; cases vl)
        refine ⟨⟨_, _, _, _, _, _, _, _, _, rfl⟩, G12, fun n => if n = h.nm then t else ts n, fun n => if n = h.nm then hp else td n, fun n => if n = h.nm then D else tl n, cl, ⟨fun n => if n = h.nm then ⟨r5.toNat, r, notes, r11⟩ else S.hs n, S.q⟩, ?_, fun k hk => ?_, sq⟩
        · rw [tk]
          refine ⟨tl12, D0.eqv (S := ⟨fun n => if n = h.nm then ⟨r5.toNat, r, [], 0⟩ else S.hs n, S.q⟩) ⟨t0.d, t0.e⟩ fun k hk => ?_, ⟨t1.d, fun c hc => absurd hc List.not_mem_nil⟩, D2.eqv (S := ⟨fun n => if n = h.nm then ⟨r5.toNat, r, notes, 0⟩ else S.hs n, S.q⟩) ⟨t2.d, t2.e⟩ fun k hk => ?_, t3, ⟨ne.n01, ne.n02, ne.n03, ne.n12, ne.n13, ne.n23⟩, fr⟩
          · by_cases z : k.nm = h.nm
            · simp only [if_pos z]; exact ⟨trivial, trivial⟩
            · simp only [if_neg z]; exact ⟨trivial, trivial⟩
          · by_cases z : k.nm = h.nm
            · simp only [if_pos z]
            · simp only [if_neg z]
        · rw [tk] at hk
          rcases List.mem_append.mp hk with hk | hk
          · simp only [if_neg (nd k hk)]
            exact sok k hk
          · obtain rfl := List.mem_singleton.mp hk
            simp only [if_pos]
            exact ⟨⟨by show r5.toNat < k.rows.length; omega, eo, rn⟩, n3⟩
  · rintro σ H2 ⟨⟨c3, c4, c5, c6, c7, c8, c9, c10, c11, rfl⟩, G2, ts, td, tl, cl, S, p, sok, sq⟩
    rw [List.take_of_length_le (by omega)] at p sok
    have qok0 : QsOk m.ks m.cs S.q := fun c hc d hd => by rw [sq] at hd; exact absurd hd List.not_mem_nil
    have qlen0 : ∀ n, (S.q n).length ≤ 3 := fun n => by rw [sq]; exact Nat.zero_le _
    refine ⟨_, rfl, _, _, _, _, rfl, rfl, SqT.of (G2.at hma (nf hma)), at1, ea, rfl, ⟨_, SqT.of (G2.at hea (nf hea))⟩, for_it (walk_tup (K := K) (a := ea) (xs := ws)) (fun i σ H' => (∃ c3 c4 c5 c6 c7 c8 c9 c10 c11, σ = [some (.ref f), some (.ref ma), some (.ref l), c3, c4, c5, c6, c7, c8, c9, c10, c11, none]) ∧ Go f H H' ∧
        ∃ cl q, PartsG H H' m.hs (m.cs.take i) ⟨l, d0, d1, d2, d3, ts, td, tl, cl⟩ ⟨S.hs, q⟩ ∧ QsOk m.ks m.cs q ∧ ∀ n, (q n).length ≤ 3)
      ⟨⟨_, _, _, _, _, _, _, _, _, rfl⟩, G2, cl, S.q, p, qok0, qlen0⟩ (fun i σ H' _ hP => SqT.of (hP.2.1.at hea (nf hea))) ?_ ?_⟩
    · rintro i y σ H3 H4 hi ⟨⟨c3, c4, c5, c6, c7, c8, c9, c10, c11, rfl⟩, G3, cl, qs, p, qok, qlen⟩ ⟨rfl, hy⟩
      obtain ⟨e, he, ie⟩ := iws.of hy
      rw [List.getElem?_map] at he
      obtain ⟨c, hc, rfl⟩ := Option.map_eq_some_iff.mp he
      have cm : c ∈ m.cs := List.mem_of_getElem? hc
      obtain ⟨ta, w1, w2, w3, w4, rfl, hta, g1, g2, g3, g4⟩ := (ie.mono (hf.ts G3)).t4
      cases g1.strE
      cases g2.strE
      cases g3.strE
      cases g4.strE
      have nd : ∀ k ∈ m.cs.take i, k.nm ≠ c.nm := fun k hk e => nodup_take_ne (f := (·.nm)) ok.cn hc (by rw [← e]; exact List.mem_map_of_mem (f := (·.nm)) hk)
      have tk : m.cs.take (i + 1) = m.cs.take i ++ [c] := by rw [List.take_succ, hc]; rfl
      refine ⟨_, _, rfl, SqT.of hta, rfl, _, _, rfl, _, _, rfl, _, _, rfl, _, _, rfl, rfl, ?_⟩
      refine ⟨_, rfl, f, 4, rfl, G3.2, by decide, by decide, fun r5 H5 r50 r51 g5 => ⟨_, rfl, by omega, by omega, fun D nD => ?_⟩⟩
      have G5 := G3.tr g5
      have DH := new G5 nD
      have Df := hf.ne DH
      refine lc_it walk_range (fun j H' => Go f H5 H' ∧ ∃ (us : List V) (ds : List PyData), H' D = some (.lst us) ∧ Ims H' us ds ∧ ds.length = j ∧ ∀ d ∈ ds, VOk m.ks c.kd d) ⟨Go.of G5.2 (same_new nD _), [], [], upd_same, .nil, rfl, fun d hd => absurd hd List.not_mem_nil⟩ (fun _ _ _ _ => trivial) ?_ ?_
      · rintro j y H6 H7 hj ⟨g6, us, ds, hD, ius, dln, dok⟩ ⟨rfl, rfl⟩
        have hj3 : j < 4 := by omega
        have usl := ius.length
        have G6 := G5.tr g6
        refine ⟨rfl, lcYes ?_⟩
        refine ⟨_, rfl, _, rfl, _, _, _, _, rfl, rfl, SqT.of (G6.at hma (nf hma)), at0, _, rfl, f, v1, c.kd, m.ks, 4, rfl, rfl, g6.2, (show KsAt H7 v1 m.ks from i1.mono (hf.ts G6)), ok.ks, (ok.ck c cm).mono ok.ks.len, fun v d H8 g8 iv vok => ?_⟩
        have hD8 := g8.at hD Df
        have tsp : TS H8 (upd H8 D (.lst (us ++ [v]))) := ts_lst hD8
        refine ⟨_, hD8, small1000 (by omega), ⟨fun b o e n => ?_, (g6.tr g8).2.put Df⟩, us ++ [v], ds ++ [d], upd_same, ((ius.mono (g6.2.ts g8)).mono tsp).snoc (iv.mono tsp), by rw [List.length_append, dln]; rfl, fun z hz => ?_⟩
        · rw [upd_ne (fun z => by rw [z, nD] at e; cases e)]
          exact (g6.tr g8).1 b o e n
        · rcases List.mem_append.mp hz with hz | hz
          · exact dok z hz
          · rw [List.mem_singleton.mp hz]; exact vok
      · rintro H6 ⟨g6, us, ds, hD, ius, dln, dok⟩
        have ds3 : ds.length ≤ 3 := by rw [dln]; omega
        have g36 := g5.tr g6
        have G6 := G3.tr g36
        have p6 := p.go hf G3.2 g36
        have l4 : H4 l = some (.lst [.ref d0, .ref d1, .ref d2, .ref d3]) := p.l
        have l6 : H6 l = some (.lst [.ref d0, .ref d1, .ref d2, .ref d3]) := p6.l
        have d16 : H6 d1 = some (.dK (lnD ((m.cs.take i).map fun c => (c.nm, cl c.nm)))) := p6.p1.d
        have Dl : D ≠ l := fun z => by
          have h5 := g5.at l4 lf
          rw [← z, nD] at h5
          cases h5
        have r1 := PartsG.put1 p6.p1 nd (S' := ⟨S.hs, setQ qs c.nm ds⟩) (fun k hk => by show setQ qs c.nm ds k.nm = qs k.nm; unfold setQ; rw [if_neg (nd k hk)]) hD (by show Ims H6 us (setQ qs c.nm ds c.nm); unfold setQ; rw [if_pos rfl]; exact ius) Dl DH
        refine ⟨_, rfl, _, _, _, _, rfl, rfl, SqL.of l6, at1, _, rfl, d1, _, rfl, DPut.k (k := Sum.inr c.nm) d16 (small1000 (by rw [lnD, List.length_map, List.length_map, List.length_take]; omega)), ?_⟩
        have F7 : ∀ b u, H6 b = some u → b ≠ d1 → upd H6 d1 (.dK (putK (lnD ((m.cs.take i).map fun c => (c.nm, cl c.nm))) (Sum.inr c.nm) (.ref D))) b = some u := fun b u e n => by rw [upd_ne n]; exact e
        have G7 : Go f H (upd H6 d1 (.dK (putK (lnD ((m.cs.take i).map fun c => (c.nm, cl c.nm))) (Sum.inr c.nm) (.ref D)))) := putG G6 f1
        have r1 : D1 H (upd H6 d1 (.dK (putK (lnD ((m.cs.take i).map fun c => (c.nm, cl c.nm))) (Sum.inr c.nm) (.ref D)))) (m.cs.take i ++ [c]) ⟨l, d0, d1, d2, d3, ts, td, tl, fun n => if n = c.nm then D else cl n⟩ ⟨S.hs, setQ qs c.nm ds⟩ := r1
        generalize upd H6 d1 (.dK (putK (lnD ((m.cs.take i).map fun c => (c.nm, cl c.nm))) (Sum.inr c.nm) (.ref D))) = H7 at F7 G7 r1
        have r0 := p6.p0.keep F7 d16 (fun _ z => by cases z) (Ne.symm ne.n01) (fun k hk z => (p6.p0.e k hk).2.2.1 (by rw [← z]; simp))
        have r2 := p6.p2.keep F7 ne.n12 (p6.p2.nd d16)
        have r3 := F7 _ _ p6.p3 (Ne.symm ne.n13)
        have rl := F7 _ _ l6 (fun z => by rw [z, d16] at l6; cases l6)
        refine ⟨⟨_, _, _, _, _, _, _, _, _, rfl⟩, G7, fun n => if n = c.nm then D else cl n, setQ qs c.nm ds, ?_, setQ_ok ok.cn qok cm dok, fun n => ?_⟩
        · rw [tk]
          exact ⟨rl, ⟨r0.d, r0.e⟩, r1, ⟨r2.d, r2.e⟩, r3, ⟨ne.n01, ne.n02, ne.n03, ne.n12, ne.n13, ne.n23⟩, fr⟩
        · unfold setQ
          by_cases z : n = c.nm
          · rw [if_pos z]; exact ds3
          · rw [if_neg z]; exact qlen n
    · rintro σ H3 ⟨⟨c3, c4, c5, c6, c7, c8, c9, c10, c11, rfl⟩, G3, cl, qs, p, qok, qlen⟩
      rw [List.take_of_length_le (by omega)] at p
      exact ⟨_, rfl, q _ _ H3 G3 p ⟨fun h hm => (sok h hm).1, qok⟩ ⟨fun h hm => (sok h hm).2, qlen⟩⟩
end
end Sw
set_option Elab.async false
set_option linter.all false
set_option maxRecDepth 100000
set_option maxHeartbeats 4000000
/-! Lone.sent, Lone.left; a hand in a house and a lone one. -/
namespace Sw
open PySem PySem.Spec PyProof.Rows L2
section
variable {P : Program} {w : World} {K : PySem.W.Frag} {mg : Str → Option Value} {base : Heap}
def spLSent (K : PySem.W.Frag) : Sp := fun vs H Q _ => ∃ (kv : V) (a : LAd) (rs : List PyData) (ci co : List (Str × Addr)) (hs : HS) (q : Qs), vs = [.ref a.p] ∧ LoneAt K H kv a rs ci co hs ∧ Lines H co q ∧ (co.map (·.1)).Nodup ∧ co.length ≤ 100 ∧
  ∀ (e : Addr) (ls' : List (Str × Addr)) (H' : Hp), Same H H' → H' e = some (.dK (lnD ls')) → ls'.map (·.1) = co.map (·.1) → Lines H' ls' q → Q (.ref e) H'
theorem metLSent (T : Txt K mg) : C8.Met P w K mg base 2 (LC K) "sent" (spLSent K) [] := by
  have cPCopied := calPCopied (P := P) (w := w) (base := base) T
  refine mkMet (k := 1) T.cls_Lone T.me_Lone_sent T.fL_Sent scL_Sent (fun _ _ _ _ _ _ us hl => match us, hl with | [_], _ => rfl) (fun vs H Q E h => ?_) (fun cdv A outer s H vs Q E hr h => ?_)
  · obtain ⟨kv, a, rs, ci, co, hs, q, rfl, _⟩ := h
    rfl
  obtain ⟨kv, a, rs, ci, co, hs, qs, rfl, L, ln, nd, cl, q⟩ := h
  refine ⟨_, PSs.nox (pss_one (ps_ret (C8.pe_c cPCopied hr (by omega) rfl (pa_cons (pe_fld (pv 0) rfl) pa_nil)))), ?_⟩
  exact ⟨_, rfl, a.p, LC K, a.dx, _, _, rfl, L.ob, T.cls_Lone, T.no_Lone_gone, lf_gone, a.gd, co, qs, rfl, L.gd, ln, nd, cl, fun e ls' H' s _ _ h1 h2 h3 => q e ls' H' s h1 h2 h3⟩
def spLLeft (K : PySem.W.Frag) : Sp := fun vs H Q _ => ∃ (kv : V) (a : LAd) (rs : List PyData) (ci co : List (Str × Addr)) (hs : HS) (q : Qs), vs = [.ref a.p] ∧ LoneAt K H kv a rs ci co hs ∧ Lines H ci q ∧ (ci.map (·.1)).Nodup ∧ ci.length ≤ 100 ∧
  ∀ (e : Addr) (ls' : List (Str × Addr)) (H' : Hp), Same H H' → H' e = some (.dK (lnD ls')) → ls'.map (·.1) = ci.map (·.1) → Lines H' ls' q → Q (.ref e) H'
theorem metLLeft (T : Txt K mg) : C8.Met P w K mg base 2 (LC K) "left" (spLLeft K) [] := by
  have cPCopied := calPCopied (P := P) (w := w) (base := base) T
  refine mkMet (k := 1) T.cls_Lone T.me_Lone_left T.fL_Left scL_Left (fun _ _ _ _ _ _ us hl => match us, hl with | [_], _ => rfl) (fun vs H Q E h => ?_) (fun cdv A outer s H vs Q E hr h => ?_)
  · obtain ⟨kv, a, rs, ci, co, hs, q, rfl, _⟩ := h
    rfl
  obtain ⟨kv, a, rs, ci, co, hs, qs, rfl, L, ln, nd, cl, q⟩ := h
  refine ⟨_, PSs.nox (pss_one (ps_ret (C8.pe_c cPCopied hr (by omega) rfl (pa_cons (pe_fld (pv 0) rfl) pa_nil)))), ?_⟩
  exact ⟨_, rfl, a.p, LC K, a.dx, _, _, rfl, L.ob, T.cls_Lone, T.no_Lone_coming, lf_coming, a.cd, ci, qs, rfl, L.cd, ln, nd, cl, fun e ls' H' s _ _ h1 h2 h3 => q e ls' H' s h1 h2 h3⟩
end
/-- a hand's state in a house, and the lone one's -/
structure Rel (cs : List Ch) (h : Str) (n0 : List Int) (d0 : Int) (q0 : Qs) (a b : HS) (qa qb : Qs) : Prop where
  at_ : a.at_ = b.at_
  held : a.held = b.held
  notes : a.notes = n0 ++ b.notes
  done : a.done = d0 + b.done
  to : ∀ c ∈ cs, c.to = h → qa c.nm = qb c.nm
  fr : ∀ c ∈ cs, c.fr = h → qa c.nm = q0 c.nm ++ qb c.nm
/-- both do the step or neither -/
theorem Rel.step {ks : List KR} {cs : List Ch} {hd : Hd} {n0 : List Int} {d0 : Int} {q0 : Qs} {a b : HS} {qa qb : Qs} (cn : (cs.map (·.nm)).Nodup) (ns : ∀ c ∈ cs, c.to = hd.nm → c.fr = hd.nm → False) (hok : HandOk ks cs hd) (ho : a.at_ < hd.rows.length) (r : Rel cs hd.nm n0 d0 q0 a b qa qb) :
    (stepA ks hd.rows a qa = none ∧ stepA ks hd.rows b qb = none) ∨ ∃ a' qa' b' qb', stepA ks hd.rows a qa = some (a', qa') ∧ stepA ks hd.rows b qb = some (b', qb') ∧ Rel cs hd.nm n0 d0 q0 a' b' qa' qb' := by
  obtain ⟨row, hr0⟩ : ∃ r, hd.rows[a.at_]? = some r := ⟨_, List.getElem?_eq_getElem ho⟩
  have rok := hok.rows.2.2 _ _ hr0
  have hrD := getD_of hr0
  have hr1 : hd.rows[b.at_]? = some row := by rw [← r.at_]; exact hr0
  have hrE := getD_of hr1
  have dn : a.done + 1 = d0 + (b.done + 1) := by rw [r.done]; omega
  cases rok with
  | end_ => exact .inl ⟨sA_end hrD, sA_end hrE⟩
  | @go j hj =>
    refine .inr ⟨_, _, _, _, sA_go hrD, sA_go hrE, ⟨?_, r.held, r.notes, dn, r.to, r.fr⟩⟩
    show adv hd.rows a.at_ 0 = adv hd.rows b.at_ 0
    rw [r.at_]
  | @take l x c hc hto hbx hnx =>
    have e1 := r.to c hc hto
    cases hq : qb c.nm with
    | nil =>
      refine .inl ⟨?_, ?_⟩
      · rw [sA_take hrD, e1, hq]
      · rw [sA_take hrE, hq]
    | cons d ds =>
      refine .inr ⟨{ a with at_ := adv hd.rows a.at_ 0, held := putA a.held x d, done := a.done + 1 }, setQ qa c.nm ds, { b with at_ := adv hd.rows b.at_ 0, held := putA b.held x d, done := b.done + 1 }, setQ qb c.nm ds, ?_, ?_, ⟨?_, ?_, r.notes, dn, fun c' hc' ht => ?_, fun c' hc' hf => ?_⟩⟩
      · rw [sA_take hrD, e1, hq]
      · rw [sA_take hrE, hq]
      · show adv hd.rows a.at_ 0 = adv hd.rows b.at_ 0
        rw [r.at_]
      · show putA a.held x d = putA b.held x d
        rw [r.held]
      · unfold setQ
        by_cases z : c'.nm = c.nm
        · rw [if_pos z, if_pos z]
        · rw [if_neg z, if_neg z]; exact r.to c' hc' ht
      · unfold setQ
        by_cases z : c'.nm = c.nm
        · obtain rfl := nm_inj cn hc' hc z
          exact (ns c' hc hto hf).elim
        · rw [if_neg z, if_neg z]; exact r.fr c' hc' hf
  | @send c e2 hc hfr hwt hnx =>
    refine .inr ⟨_, _, _, _, sA_send hrD, sA_send hrE, ⟨?_, r.held, r.notes, dn, fun c' hc' ht => ?_, fun c' hc' hf => ?_⟩⟩
    · show adv hd.rows a.at_ 0 = adv hd.rows b.at_ 0
      rw [r.at_]
    · unfold setQ
      by_cases z : c'.nm = c.nm
      · obtain rfl := nm_inj cn hc' hc z
        exact (ns c' hc ht hfr).elim
      · rw [if_neg z, if_neg z]; exact r.to c' hc' ht
    · unfold setQ
      by_cases z : c'.nm = c.nm
      · obtain rfl := nm_inj cn hc' hc z
        rw [if_pos rfl, if_pos rfl, r.fr c' hc hfr, r.held, List.append_assoc]
      · rw [if_neg z, if_neg z]; exact r.fr c' hc' hf
  | @set x κ e2 hx hwt hnx =>
    refine .inr ⟨_, _, _, _, sA_set hrD, sA_set hrE, ⟨?_, ?_, r.notes, dn, r.to, r.fr⟩⟩
    · show adv hd.rows a.at_ 0 = adv hd.rows b.at_ 0
      rw [r.at_]
    · show putA a.held x _ = putA b.held x _
      rw [r.held]
  | @tell e2 hwt hnx =>
    refine .inr ⟨_, _, _, _, sA_tell hrD, sA_tell hrE, ⟨?_, r.held, ?_, dn, r.to, r.fr⟩⟩
    · show adv hd.rows a.at_ 0 = adv hd.rows b.at_ 0
      rw [r.at_]
    · show a.notes ++ [_] = n0 ++ (b.notes ++ [_])
      rw [r.notes, r.held, List.append_assoc]
  | @ifr e2 j hwt hj hnx =>
    refine .inr ⟨_, _, _, _, sA_if hrD, sA_if hrE, ⟨?_, r.held, r.notes, dn, r.to, r.fr⟩⟩
    show adv hd.rows a.at_ _ = adv hd.rows b.at_ _
    rw [r.at_, r.held]
end Sw
set_option Elab.async false
set_option linter.all false
set_option maxRecDepth 100000
set_option maxHeartbeats 4000000
/-! What a step leaves apart: a house, a lone one, four dicts. -/
namespace Sw
open PySem PySem.Spec PyProof.Rows L2
theorem HouseAt.nt {K : PySem.W.Frag} {H : Hp} {mv kv : V} {m : Make} {a : PA} {S : St} (h : HouseAt K H mv kv m a S) : ∀ b ∈ a.mut m, ∀ xs, H b ≠ some (.tup xs) := fun b hb xs e => by
  rcases List.mem_append.mp hb with hb | hb
  · obtain ⟨k, hk, hb⟩ := List.mem_flatMap.mp hb
    have L := h.lone k hk
    obtain ⟨kvs, d1, _⟩ := L.hd
    simp only [List.mem_cons, List.not_mem_nil, or_false] at hb
    rcases hb with rfl | rfl | rfl
    · have := L.ob; rw [e] at this; cases this
    · rw [e] at d1; cases d1
    · have := L.nt; rw [e] at this; cases this
  · obtain ⟨c, hc, rfl⟩ := List.mem_map.mp hb
    obtain ⟨us, e2, _⟩ := h.lines (c.nm, a.L c.nm) (List.mem_map_of_mem (f := fun c : Ch => (c.nm, a.L c.nm)) hc)
    have e3 : H (a.L c.nm) = some (.lst us) := e2
    rw [e] at e3
    cases e3
theorem PartsG.nt {Hb H : Hp} {m : Make} {x : PX} {S : St} (p : PartsG Hb H m.hs m.cs x S) : ∀ b ∈ x.mut m, ∀ us, H b ≠ some (.tup us) := fun b hb us e => by
  rcases List.mem_append.mp hb with hb | hb
  · rcases List.mem_append.mp hb with hb | hb
    · rcases List.mem_append.mp hb with hb | hb
      · simp only [List.mem_cons, List.not_mem_nil, or_false] at hb
        rcases hb with rfl | rfl | rfl | rfl
        · rw [p.p0.d] at e; cases e
        · rw [p.p1.d] at e; cases e
        · rw [p.p2.d] at e; cases e
        · rw [p.p3] at e; cases e
      · obtain ⟨h, hm, rfl⟩ := List.mem_map.mp hb
        obtain ⟨_, ⟨kvs, h2, _⟩, _⟩ := p.p0.e h hm
        rw [h2] at e; cases e
    · obtain ⟨h, hm, rfl⟩ := List.mem_map.mp hb
      rw [(p.p2.e h hm).1] at e; cases e
  · obtain ⟨c, hc, rfl⟩ := List.mem_map.mp hb
    obtain ⟨⟨xs, h1, _⟩, _⟩ := p.p1.e c hc
    rw [h1] at e; cases e
theorem foot_own {a : LAd} {ci co : List (Str × Addr)} : ∀ b ∈ foot a ci co, b ∈ a.p :: (a.own ++ (ci ++ co).map (·.2)) := fun b hb => by
  simp only [foot, List.mem_cons] at hb
  rcases hb with rfl | rfl | rfl | hb
  · exact List.mem_cons_self
  · exact List.mem_cons_of_mem _ (List.mem_append_left _ (by simp [LAd.own]))
  · exact List.mem_cons_of_mem _ (List.mem_append_left _ (by simp [LAd.own]))
  · exact List.mem_cons_of_mem _ (List.mem_append_right _ hb)
theorem own_keep {a : LAd} {ci co : List (Str × Addr)} {b : Addr} (h : b = a.p ∨ b = a.la ∨ b = a.hd ∨ b = a.cd ∨ b = a.gd ∨ b = a.nt) : b ∈ a.p :: (a.own ++ (ci ++ co).map (·.2)) := by
  rcases h with rfl | rfl | rfl | rfl | rfl | rfl
  · exact List.mem_cons_self
  all_goals exact List.mem_cons_of_mem _ (List.mem_append_left _ (by simp [LAd.own]))
theorem LoneAt.foot_nt {K : PySem.W.Frag} {H : Hp} {kv : V} {a : LAd} {rs : List PyData} {ci co : List (Str × Addr)} {hs : HS} {q : Qs} (L : LoneAt K H kv a rs ci co hs) (ln : Lines H (ci ++ co) q) : ∀ b ∈ foot a ci co, H b ≠ none ∧ ∀ xs, H b ≠ some (.tup xs) := fun b hb => by
  obtain ⟨kvs, d1, _⟩ := L.hd
  simp only [foot, List.mem_cons] at hb
  rcases hb with rfl | rfl | rfl | hb
  · rw [L.ob]; exact ⟨Option.some_ne_none _, fun xs e => by cases e⟩
  · rw [d1]; exact ⟨Option.some_ne_none _, fun xs e => by cases e⟩
  · rw [L.nt]; exact ⟨Option.some_ne_none _, fun xs e => by cases e⟩
  · obtain ⟨y, hy, rfl⟩ := List.mem_map.mp hb
    obtain ⟨us, e, _⟩ := ln y hy
    rw [e]; exact ⟨Option.some_ne_none _, fun xs e => by cases e⟩
theorem HSOk.rel {ks : List KR} {hd : Hd} {a b : HS} (h : HSOk ks hd a) (e1 : a.at_ = b.at_) (e2 : a.held = b.held) : HSOk ks hd b := ⟨by rw [← e1]; exact h.at_, by rw [← e2]; exact h.env, by rw [← e2]; exact h.nm⟩
/-- a row of letters grows by one at most -/
theorem stepA_len {ks : List KR} {rs : List PyData} {hs hs' : HS} {q q' : Qs} (e : stepA ks rs hs q = some (hs', q')) (c : Str) : (q' c).length ≤ (q c).length + 1 := by
  unfold stepA at e
  split at e
  · cases e
  split at e
  · split at e
    · cases e
    · next d l hq =>
      cases e
      exact setQ_len (by rw [hq, List.length_cons]; omega) c
  split at e
  · cases e
    exact setQ_len (by rw [List.length_append, List.length_singleton]; omega) c
  split at e
  · cases e; omega
  split at e
  · cases e; omega
  split at e
  · cases e; omega
  · cases e; omega
theorem stepH_none {m : Make} (ok : MOk m) {h : Hd} (hm : h ∈ m.hs) {S : St} (e : stepA m.ks h.rows (S.hs h.nm) S.q = none) : stepH m h.nm S = (false, S) := by
  unfold stepH
  rw [handOf_mem ok hm]
  show (match stepA m.ks h.rows (S.hs h.nm) S.q with | none => (false, S) | some (hs', q') => (true, (⟨fun n => if n = h.nm then hs' else S.hs n, q'⟩ : St))) = _
  rw [e]
theorem stepH_some {m : Make} (ok : MOk m) {h : Hd} (hm : h ∈ m.hs) {S : St} {hs' : HS} {q' : Qs} (e : stepA m.ks h.rows (S.hs h.nm) S.q = some (hs', q')) : stepH m h.nm S = (true, ⟨fun n => if n = h.nm then hs' else S.hs n, q'⟩) := by
  unfold stepH
  rw [handOf_mem ok hm]
  show (match stepA m.ks h.rows (S.hs h.nm) S.q with | none => (false, S) | some (hs', q') => (true, (⟨fun n => if n = h.nm then hs' else S.hs n, q'⟩ : St))) = _
  rw [e]
end Sw
set_option Elab.async false
set_option linter.all false
set_option maxRecDepth 100000
set_option maxHeartbeats 4000000
/-! The law's lone_alike. -/
namespace Sw
open PySem PySem.Spec PyProof.Rows L2
def spGLoneAlike : Sp := fun vs H Q _ => ∃ (mv : V) (f : Addr) (m : Make), vs = [mv, .ref f] ∧ Feed H f ∧ Im H mv m.d ∧ MOk m ∧ m.hs.length ≤ 4 ∧ ∀ H', Q (.bl true) H'
theorem strs_flat (l : List Str) : (l.map V.str).all flatV = true := List.all_eq_true.mpr fun z hz => by
  obtain ⟨y, _, rfl⟩ := List.mem_map.mp hz
  rfl
theorem inV_of {l : List Str} {x : Str} (h : x ∈ l) : inV (.str x) (l.map V.str) = true := List.any_eq_true.mpr ⟨V.str x, List.mem_map_of_mem (f := V.str) h, beq_self_eq_true _⟩
section
variable {P : Program} {w : World} {K : PySem.W.Frag} {mg : Str → Option Value} {base : Heap}
theorem calGLoneAlike (T : Txt K mg) : C8.Cal P w K mg base 25 "_law_lone_alike" spGLoneAlike [] := by
  have cGOwn := calGOwn (P := P) (w := w) (base := base) T
  have cGTake := calGTake (P := P) (w := w) (base := base) T
  have cGStill := calGStill (P := P) (w := w) (base := base) T
  have cPPlainAt := calPPlainAt (P := P) (w := w) (base := base) T
  have mLone := makL (P := P) (w := w) (base := base) T
  have mP_Stand := metPStand (P := P) (w := w) (base := base) T
  have mP_Told := metPTold (P := P) (w := w) (base := base) T
  have mP_Count := metPCount (P := P) (w := w) (base := base) T
  have mP_Letters := metPLetters (P := P) (w := w) (base := base) T
  have mP_Step := metPStep (P := P) (w := w) (base := base) T
  have mL_Stand := metLStand (P := P) (w := w) (base := base) T
  have mL_Told := metLTold (P := P) (w := w) (base := base) T
  have mL_Count := metLCount (P := P) (w := w) (base := base) T
  have mL_Sent := metLSent (P := P) (w := w) (base := base) T
  have mL_Left := metLLeft (P := P) (w := w) (base := base) T
  have mL_Step := metLStep (P := P) (w := w) (base := base) T
  refine mkCal (k := 24) T.fGLoneAlike scGLoneAlike T.glo__law_lone_alike (fun _ _ _ _ _ _ us hl => match us, hl with | [_, _], _ => rfl) (fun vs H Q E h => ?_) (fun cdv A outer s H vs Q E hr h => ?_)
  · obtain ⟨mv, f, m, rfl, _⟩ := h
    rfl
  obtain ⟨mv, f, m, rfl, hf, im, ok, hl4, q⟩ := h
  have hu := hu_of hr
  refine ⟨_, PSs.nox (pss_cons (ps_set (i := 2) scGLoneAlike.nd rfl (Or.inl rfl) (C8.pe_c cGOwn hr (by omega) rfl (pa_cons (pv 1) (pa_cons (pv 0) pa_nil))))
      (pss_cons (ps_set (i := 3) scGLoneAlike.nd rfl (Or.inr rfl) (pe_lc (own := [("_law_channel", 15)])  rfl scGLoneAlike.nd (pi_tup (pe_ix (ix_tupK (K := K) rfl) (pv 0) pe_int (fun _ _ => rfl))) (blkOk_by (N := nGLoneAlike) (sc := defScope sGLoneAlike) (by decide +kernel)) (fun _ _ _ _ _ => pg_name (i := 15) scGLoneAlike.nd rfl (Or.inl rfl)) (fun _ _ _ _ _ => pts_one (pt_cmpR op_eq (pe_ix (ix_tupK (K := K) rfl) (pv 15) pe_int (fun _ _ => rfl)) (pe_ix (ix_tupK (K := K) rfl) (pv 15) pe_int (fun _ _ => rfl)) (nomark _))) (fun _ _ _ _ _ => pe_ix (ix_tupK (K := K) rfl) (pv 15) pe_int (fun _ _ => rfl))))
      (pss_cons (ps_setLc (own := [("_law_hand", 16)]) (i := 4) rfl scGLoneAlike.nd rfl rfl (sw_true rfl rfl rfl (by decide +kernel)) (pi_tup (pe_ix (ix_tupK (K := K) rfl) (pv 0) pe_int (fun _ _ => rfl))) (blkOk_by (N := nGLoneAlike) (sc := defScope sGLoneAlike) (by decide +kernel)) (fun _ _ _ _ _ => pg_name (i := 16) scGLoneAlike.nd rfl (Or.inl rfl)) (fun _ _ _ _ _ => pts_one (pt_cmpR (op_notIn_seqK (K := K) rfl) (pe_ix (ix_tupK (K := K) rfl) (pv 16) pe_int (fun _ _ => rfl)) (pv 3) (by rfl))) (fun _ _ _ _ _ => pe_ix (ix_tupK (K := K) rfl) (pv 16) pe_int (fun _ _ => rfl)))
      (pss_cons (ps_if (pt_cmpR (op_eqE hr.units0) (pv 4) (pe_lst pa_nil) (nomark _)) (pss_one (ps_ret pe_bl)) pss_nil)
      (pss_cons (ps_set (i := 5) scGLoneAlike.nd rfl (Or.inl rfl) (pe_ix (ix_listK (K := K) rfl) (pv 4) (C8.pe_c cGTake hr (by omega) rfl (pa_cons (pv 1) (pa_cons (pe_callB (call_len_seqK (K := K) rfl) (by rfl) T.free_len PySem.boot_len (pa_cons (pv 4) pa_nil)) pa_nil))) (fun _ _ => rfl)))
      (pss_cons (ps_set (i := 6) scGLoneAlike.nd rfl (Or.inl rfl) (C8.pe_c cPPlainAt hr (by omega) rfl (pa_cons (pv 0) (pa_cons (pe_ix (ix_listK (K := K) rfl) (pv 2) pe_int (fun _ _ => rfl)) (pa_cons (pe_ix (ix_listK (K := K) rfl) (pv 2) pe_int (fun _ _ => rfl)) (pa_cons (pe_ix (ix_listK (K := K) rfl) (pv 2) pe_int (fun _ _ => rfl)) (pa_cons (pe_ix (ix_listK (K := K) rfl) (pv 2) pe_int (fun _ _ => rfl)) pa_nil)))))))
      (pss_cons (ps_set (i := 7) scGLoneAlike.nd rfl (Or.inl rfl) pe_dnewK)
      (pss_cons (ps_for PassesOwn.never rfl (pi_tup (pe_ix (ix_tupK (K := K) rfl) (pv 0) pe_int (fun _ _ => rfl))) (pg_tupK (K := K) (n := 4) rfl rfl (pgs_cons (pg_name (i := 8) scGLoneAlike.nd rfl (Or.inl rfl)) (pgs_cons (pg_name (i := 9) scGLoneAlike.nd rfl (Or.inl rfl)) (pgs_cons (pg_name (i := 10) scGLoneAlike.nd rfl (Or.inl rfl)) (pgs_cons (pg_name (i := 11) scGLoneAlike.nd rfl (Or.inl rfl)) pgs_nil)))))
        (pss_one (ps_if (pt_cmpR op_eq (pv 10) (pv 5) (nomark _)) (pss_one (ps_dput hu (pv 7) (pv 8) (pe_dget hu (pe_ix (ix_listK (K := K) rfl) (pv 2) pe_int (fun _ _ => rfl)) (pv 8) (fun _ _ => rfl)) rfl)) pss_nil)))
      (pss_cons (ps_set (i := 12) scGLoneAlike.nd rfl (Or.inl rfl) (C8.pe_mk mLone hr (by omega) rfl (pa_cons (pv 0) (pa_cons (pv 5) (pa_cons (pv 7) (pa_cons (pe_dget hu (pe_ix (ix_listK (K := K) rfl) (pv 2) pe_int (fun _ _ => rfl)) (pv 5) (fun _ _ => rfl)) pa_nil))))))
      (pss_cons (ps_set (i := 13) scGLoneAlike.nd rfl (Or.inl rfl) (pe_callTy call_list_of (by rfl) T.free_list (by decide +kernel) (pa_cons (pe_dget hu (pe_ix (ix_listK (K := K) rfl) (pv 2) pe_int (fun _ _ => rfl)) (pv 5) (fun _ _ => rfl)) pa_nil)))
      (pss_cons (ps_for PassesOwn.never rfl (pi_range1 rfl T.free_range (pa_cons pe_int pa_nil)) (pg_name (i := 14) scGLoneAlike.nd rfl (Or.inl rfl))
        (pss_cons (ps_if (pt_not (pt_val (C8.pe_c cGStill hr (by omega) rfl (pa_cons (pv 6) (pa_cons (pv 0) pa_nil))))) (pss_one (ps_ret pe_bl)) pss_nil)
          (pss_cons (ps_if (PW.pt (pw_or (pt_cmpR (op_neX hr.units) (C8.pe_mt mP_Stand hr (by omega) (pv 6) (pa_cons (pv 5) pa_nil)) (C8.pe_mt0 mL_Stand hr (by omega) (pv 12)) (nomark _)) (pw_or1 (pt_cmpR (op_neX hr.units) (C8.pe_mt mP_Told hr (by omega) (pv 6) (pa_cons (pv 5) pa_nil)) (pe_op op_cat (pv 13) (C8.pe_mt0 mL_Told hr (by omega) (pv 12))) (nomark _))))) (pss_one (ps_ret pe_bl)) pss_nil)
          (pss_cons (ps_if (pt_cmpR op_ne (C8.pe_mt mP_Count hr (by omega) (pv 6) (pa_cons (pv 5) pa_nil)) (pe_op op_add (pe_dget hu (pe_ix (ix_listK (K := K) rfl) (pv 2) pe_int (fun _ _ => rfl)) (pv 5) (fun _ _ => rfl)) (C8.pe_mt0 mL_Count hr (by omega) (pv 12))) (nomark _)) (pss_one (ps_ret pe_bl)) pss_nil)
          (pss_cons (ps_for PassesOwn.never rfl (pi_tup (pe_ix (ix_tupK (K := K) rfl) (pv 0) pe_int (fun _ _ => rfl))) (pg_tupK (K := K) (n := 4) rfl rfl (pgs_cons (pg_name (i := 8) scGLoneAlike.nd rfl (Or.inl rfl)) (pgs_cons (pg_name (i := 9) scGLoneAlike.nd rfl (Or.inl rfl)) (pgs_cons (pg_name (i := 10) scGLoneAlike.nd rfl (Or.inl rfl)) (pgs_cons (pg_name (i := 11) scGLoneAlike.nd rfl (Or.inl rfl)) pgs_nil)))))
            (pss_cons (ps_if (PW.pt (pw_and (pt_cmpR op_eq (pv 9) (pv 5) (nomark _)) (pw_and1 (pt_cmpR (op_neX hr.units) (C8.pe_mt mP_Letters hr (by omega) (pv 6) (pa_cons (pv 8) pa_nil)) (pe_op op_cat (pe_dget hu (pe_ix (ix_listK (K := K) rfl) (pv 2) pe_int (fun _ _ => rfl)) (pv 8) (fun _ _ => rfl)) (pe_dget hu (C8.pe_mt0 mL_Sent hr (by omega) (pv 12)) (pv 8) (fun _ _ => rfl))) (nomark _))))) (pss_one (ps_ret pe_bl)) pss_nil)
              (pss_one (ps_if (PW.pt (pw_and (pt_cmpR op_eq (pv 10) (pv 5) (nomark _)) (pw_and1 (pt_cmpR (op_neX hr.units) (C8.pe_mt mP_Letters hr (by omega) (pv 6) (pa_cons (pv 8) pa_nil)) (pe_dget hu (C8.pe_mt0 mL_Left hr (by omega) (pv 12)) (pv 8) (fun _ _ => rfl)) (nomark _))))) (pss_one (ps_ret pe_bl)) pss_nil))))
          (pss_one (ps_if (pt_cmpR op_ne (C8.pe_mt mP_Step hr (by omega) (pv 6) (pa_cons (pv 5) pa_nil)) (C8.pe_mt0 mL_Step hr (by omega) (pv 12)) (nomark _)) (pss_one (ps_ret pe_bl)) pss_nil)))))))
      (pss_one (ps_ret pe_bl))))))))))))), ?_⟩
  refine ⟨_, rfl, _, rfl, f, mv, m, rfl, hf, im, ok, fun x S H1 g1 p so bd => ?_⟩
  have im1 := im.mono (hf.ts g1)
  obtain ⟨ma, v1, v2, v3, rfl, hma, i1, i2, i3⟩ := id im1.t3
  obtain ⟨ca, zs, rfl, hca, izs⟩ := i3.tupE
  obtain ⟨ea, ws, rfl, hea, iws⟩ := i2.tupE
  have zl := izs.length
  have wl := iws.length
  rw [List.length_map] at zl wl
  have cl100 := ok.cl
  have hf1 := g1.2
  -- hands with a channel to themselves
  refine ⟨_, rfl, _, _, _, _, rfl, rfl, SqT.of hma, at1, ea, rfl, ⟨_, SqT.of hea⟩, fun D nD => ?_⟩
  refine lc_it (walk_tup (K := K) (a := ea) (xs := ws)) (fun j H' => Same H1 H' ∧ ∃ al : List Str, H' D = some (.lst (al.map V.str)) ∧ al.length ≤ j ∧ ∀ i c, i < j → m.cs[i]? = some c → c.fr = c.to → c.fr ∈ al)
    ⟨same_new nD _, [], upd_same, Nat.le_refl _, fun i c hi => absurd hi (Nat.not_lt_zero i)⟩ (fun j H' _ hP => SqT.of (hP.1 _ _ hea)) ?_ ?_
  · rintro j y H2 H3 hj ⟨s2, al, hD, all, ain⟩ ⟨rfl, hy⟩
    obtain ⟨e, he, ie⟩ := iws.of hy
    rw [List.getElem?_map] at he
    obtain ⟨c, hc, rfl⟩ := Option.map_eq_some_iff.mp he
    obtain ⟨ta, w1, w2, w3, w4, rfl, hta, k1, k2, k3, k4⟩ := (ie.mono (ts_same s2)).t4
    cases k1.strE
    cases k2.strE
    cases k3.strE
    refine ⟨rfl, ?_⟩
    refine ⟨_, rfl, _, _, _, _, rfl, rfl, SqT.of hta, at1, _, rfl, _, _, _, _, rfl, rfl, SqT.of hta, at2, rfl, _, rfl, ?_⟩
    by_cases z : c.fr = c.to
    · refine iteT' (decide_eq_true (by rw [z])) ?_
      refine ⟨_, rfl, _, _, _, _, rfl, rfl, SqT.of hta, at1, _, hD, small1000 (by rw [List.length_map]; omega), same_upd s2 nD _, al ++ [c.fr], by rw [List.map_append]; exact upd_same, by rw [List.length_append, List.length_singleton]; omega, fun i c' hi hc' e => ?_⟩
      by_cases w : i = j
      · subst w
        rw [hc] at hc'
        cases hc'
        exact List.mem_append_right _ List.mem_cons_self
      · exact List.mem_append_left _ (ain i c' (by omega) hc' e)
    · refine iteF' (decide_eq_false (fun w => z (V.str.inj w))) ?_
      refine ⟨s2, al, hD, by omega, fun i c' hi hc' e => ?_⟩
      by_cases w : i = j
      · subst w
        rw [hc] at hc'
        cases hc'
        exact absurd e z
      · exact ain i c' (by omega) hc' e
  rintro H2 ⟨s2, al, hD, all, ain⟩
  have hma2 := s2 _ _ hma
  have hca2 := s2 _ _ hca
  refine ⟨_, rfl, _, _, _, _, rfl, rfl, SqT.of hma2, at2, ca, rfl, ⟨_, SqT.of hca2⟩, fun D2 nD2 => ?_⟩
  refine lc_it (walk_tup (K := K) (a := ca) (xs := zs)) (fun j H' => Same H2 H' ∧ ∃ fr : List Str, H' D2 = some (.lst (fr.map V.str)) ∧ fr.length ≤ j ∧ ∀ y ∈ fr, y ∉ al ∧ ∃ h ∈ m.hs, h.nm = y)
    ⟨same_new nD2 _, [], upd_same, Nat.le_refl _, fun y hy => absurd hy List.not_mem_nil⟩ (fun j H' _ hP => SqT.of (hP.1 _ _ hca2)) ?_ ?_
  · rintro j y H3 H4 hj ⟨s3, fr, hD2, frl, fok⟩ ⟨rfl, hy⟩
    obtain ⟨e, he, ie⟩ := izs.of hy
    rw [List.getElem?_map] at he
    obtain ⟨h, hh, rfl⟩ := Option.map_eq_some_iff.mp he
    obtain ⟨ta, w1, w2, w3, rfl, hta, k1, _⟩ := (ie.mono (ts_same (Same.tr s2 s3))).t3
    cases k1.strE
    refine ⟨rfl, ?_⟩
    refine ⟨_, rfl, _, _, _, _, rfl, rfl, SqT.of hta, at0, _, rfl, D, _, rfl, .inl (SqL.of (s3 _ _ hD)), rfl, strs_flat al, _, rfl, ?_⟩
    cases c : inV (.str h.nm) (al.map V.str) with
    | true =>
      refine iteF' rfl ?_
      exact ⟨s3, fr, hD2, by omega, fok⟩
    | false =>
      have z : h.nm ∉ al := fun w => by rw [inV_of w] at c; cases c
      refine iteT' rfl ?_
      refine ⟨_, rfl, _, _, _, _, rfl, rfl, SqT.of hta, at0, _, hD2, small1000 (by rw [List.length_map]; omega), same_upd s3 nD2 _, fr ++ [h.nm], by rw [List.map_append]; exact upd_same, by rw [List.length_append, List.length_singleton]; omega, fun y hy => ?_⟩
      rcases List.mem_append.mp hy with hy | hy
      · exact fok y hy
      · rw [List.mem_singleton.mp hy]; exact ⟨z, h, List.mem_of_getElem? hh, rfl⟩
  rintro H3 ⟨s3, fr, hD2, frl, fok⟩
  have s13 := Same.tr s2 s3
  refine ⟨_, rfl, sz, fun p0 np0 => ?_⟩
  have s4 : Same H3 (upd H3 p0 (.lst [])) := same_new np0 _
  have hp0 : upd H3 p0 (.lst []) p0 = some (.lst []) := upd_same
  generalize upd H3 p0 (.lst []) = H4 at s4 hp0
  refine ⟨D2, p0, _, rfl, rfl, SqL.of (s4 _ _ hD2), SqL.of hp0, _, rfl, ?_⟩
  cases hfr : fr with
  | nil => exact iteT (q _)
  | cons y0 fr' =>
    refine iteF ?_
    have fl0 : 0 < fr.length := by rw [hfr]; exact Nat.succ_pos _
    have s14 := Same.tr s13 s4
    have hf4 := hf1.same s14
    have hD24 := s4 _ _ hD2
    have D2f : D2 ≠ f := (hf1.same s2).ne nD2
    refine ⟨_, rfl, _, rfl, _, rfl, D2, _, rfl, .inl (SqL.of hD24), f, _, rfl, hf4, by rw [List.length_map]; omega, by rw [List.length_map]; omega, fun r H5 r0 r1 g5 => ?_⟩
    rw [List.length_map] at r1
    obtain ⟨hn, _, hin, ah⟩ := drawn (l := fr) r0 r1
    obtain ⟨nal, h, hm, rfl⟩ := fok hn hin
    refine ⟨D2, _, _, _, rfl, rfl, SqL.of (g5.at hD24 D2f), ah V.str, ?_⟩
    -- no channel of the hand to itself
    have ns : ∀ c ∈ m.cs, c.to = h.nm → c.fr = h.nm → False := fun c hc e1 e2 => by
      obtain ⟨j, hj, ej⟩ := List.mem_iff_getElem.mp hc
      exact nal (by rw [← e2]; exact ain j c (by omega) (by rw [List.getElem?_eq_getElem hj, ej]) (e2.trans e1.symm))
    have g15 : Go f H1 H5 := (Go.of hf1 s14).tr g5
    have p5 := p.go hf hf1 g15
    have im5 := im1.mono (hf1.ts g15)
    refine ⟨_, rfl, _, rfl, _, _, _, _, rfl, rfl, SqL.of p5.l, at0, _, rfl, _, _, _, _, rfl, rfl, SqL.of p5.l, at1, _, rfl, _, _, _, _, rfl, rfl, SqL.of p5.l, at2, _, rfl, _, _, _, _, rfl, rfl, SqL.of p5.l, at3', .ref ma, m, x.d0, x.d1, x.d2, x.d3, S, rfl, im5, ok, p5.four ok, so, bd.mono (by decide), fun kv a H6 s6 frA ho => ?_⟩
    have p6 := p5.same s6
    have hea6 := s6 _ _ (g15.at hea (fun z => by
      obtain ⟨x', y', h1, _⟩ := hf1
      rw [← z, hea] at h1
      cases h1))
    have hma6 := s6 _ _ (g15.at hma (fun z => by
      obtain ⟨x', y', h1, _⟩ := hf1
      rw [← z, hma] at h1
      cases h1))
    have iws6 := (iws.mono (hf1.ts g15)).mono (ts_same s6)
    have im6 := im5.mono (ts_same s6)
    -- the letters that lie there
    intro lp nlp
    have s7 : Same H6 (upd H6 lp (.dK [])) := same_new nlp _
    have lp7 : upd H6 lp (.dK []) lp = some (.dK []) := upd_same
    generalize upd H6 lp (.dK []) = H7 at s7 lp7
    refine ⟨_, rfl, _, _, _, _, rfl, rfl, SqT.of (s7 _ _ hma6), at1, ea, rfl, ⟨_, SqT.of (s7 _ _ hea6)⟩, for_it (walk_tup (K := K) (a := ea) (xs := ws)) (fun i σ H' => (∃ c8 c9 c10 c11, σ = [some (.ref ma), some (.ref f), some (.ref x.l), some (.ref D), some (.ref D2), some (.str h.nm), some (.ref a.p), some (.ref lp), c8, c9, c10, c11, none, none, none, none, none]) ∧ Same H6 H' ∧ H' lp = some (.dK (lnD ((chTo (m.cs.take i) h.nm).map fun c => (c.nm, x.cl c.nm)))))
      ⟨⟨_, _, _, _, rfl⟩, s7, lp7⟩ (fun i σ H' _ hP => SqT.of (hP.2.1 _ _ hea6)) ?_ ?_⟩
    · rintro i y σ H8 H9 hi ⟨⟨c8, c9, c10, c11, rfl⟩, s8, hlp⟩ ⟨rfl, hy⟩
      obtain ⟨e, he, ie⟩ := iws6.of hy
      rw [List.getElem?_map] at he
      obtain ⟨c, hc, rfl⟩ := Option.map_eq_some_iff.mp he
      have cm : c ∈ m.cs := List.mem_of_getElem? hc
      obtain ⟨ta, w1, w2, w3, w4, rfl, hta, k1, k2, k3, k4⟩ := (ie.mono (ts_same s8)).t4
      cases k1.strE
      cases k2.strE
      cases k3.strE
      cases k4.strE
      refine ⟨_, _, rfl, SqT.of hta, rfl, _, _, rfl, _, _, rfl, _, _, rfl, _, _, rfl, rfl, ?_⟩
      refine ⟨_, rfl, _, rfl, rfl, _, rfl, ite2 (fun z => ?_) (fun z => ?_)⟩
      · have et : c.to = h.nm := V.str.inj (of_decide_eq_true z)
        have p8 := p6.same s8
        have dg : DGet H9 x.d1 (.str c.nm) (some (.ref (x.cl c.nm))) := get_cs ok cm ▸ DGet.k (k := Sum.inr c.nm) p8.p1.d
        have lnl : (lnD ((chTo (m.cs.take i) h.nm).map fun c => (c.nm, x.cl c.nm))).length < sizeLine := small1000 (by
          rw [lnD, List.length_map, List.length_map]
          have h1 : (chTo (m.cs.take i) h.nm).length ≤ (m.cs.take i).length := List.length_filter_le _ _
          rw [List.length_take] at h1
          omega)
        refine ⟨_, rfl, _, _, _, _, rfl, rfl, SqL.of p8.l, at1, _, rfl, x.d1, _, rfl, dg, _, rfl, _, rfl, lp, _, rfl, DPut.k (k := Sum.inr c.nm) hlp lnl, ?_⟩
        refine ⟨⟨_, _, _, _, rfl⟩, same_upd s8 nlp _, ?_⟩
        rw [upd_same, chTo_snoc hc, if_pos et]
        rw [lnD_map (l := chTo (m.cs.take i) h.nm) (nm := fun c : Ch => c.nm) (f := fun c : Ch => x.cl c.nm) (a := c) (fun k hk e => nodup_take_ne (f := (·.nm)) ok.cn hc (by rw [← e]; exact List.mem_map_of_mem (f := (·.nm)) (List.mem_filter.mp hk).1)) rfl]
      · have et : ¬ c.to = h.nm := fun w => z (decide_eq_true (by rw [w]))
        refine ⟨⟨_, _, _, _, rfl⟩, s8, ?_⟩
        rw [chTo_snoc hc, if_neg et, List.append_nil]
        exact hlp
    rintro σ H8 ⟨⟨c8, c9, c10, c11, rfl⟩, s8, hlp⟩
    rw [List.take_of_length_le (by omega)] at hlp
    have p8 := p6.same s8
    have ho8 := ho.same s8
    have im8 := im6.mono (ts_same s8)
    -- the lone one
    have dgS : DGet H8 x.d0 (.str h.nm) (some (.ref (x.ts h.nm))) := get_hs ok hm ▸ DGet.k (k := Sum.inr h.nm) p8.p0.d
    obtain ⟨hts, ⟨skvs, hsd, sbx⟩, _⟩ := p8.p0.e h hm
    refine ⟨_, rfl, _, rfl, _, rfl, _, rfl, _, _, _, _, rfl, rfl, SqL.of p8.l, at0, _, rfl, x.d0, _, rfl, dgS, fun lx ldx nlx nldx ldne => ?_⟩
    have nlx1 : upd H8 ldx (.own lx) lx = none := by rw [upd_ne (Ne.symm ldne)]; exact nlx
    have s9 : Same H8 (upd (upd H8 ldx (.own lx)) lx (.ins (LC K) ldx [])) := Same.tr (same_new nldx _) (same_new nlx1 _)
    have lo9 : upd (upd H8 ldx (.own lx)) lx (.ins (LC K) ldx []) lx = some (.ins (LC K) ldx []) := upd_same
    generalize upd (upd H8 ldx (.own lx)) lx (.ins (LC K) ldx []) = H9 at s9 lo9
    have p9 := p8.same s9
    obtain ⟨hts9, ⟨skvs9, hsd9, sbx9⟩, _⟩ := p9.p0.e h hm
    have la : LetAt H9 lp m.cs h.nm (fun n => if (m.cs.any fun c => decide (c.nm = n) && decide (c.to = h.nm)) = true then S.q n else []) := by
      refine ⟨_, s9 _ _ hlp, fun c hc et => .inr ?_⟩
      have cin : c ∈ chTo m.cs h.nm := List.mem_filter.mpr ⟨hc, decide_eq_true et⟩
      obtain ⟨⟨us, e1, e2⟩, _⟩ := p9.p1.e c hc
      have nd : (((chTo m.cs h.nm).map fun c => (c.nm, x.cl c.nm)).map (·.1)).Nodup := by
        rw [List.map_map]
        exact (List.Sublist.map _ List.filter_sublist).nodup ok.cn
      refine ⟨x.cl c.nm, us, lnD_get (x := (c.nm, x.cl c.nm)) nd (List.mem_map_of_mem (f := fun c : Ch => (c.nm, x.cl c.nm)) cin), e1, ?_⟩
      have : (m.cs.any fun c' => decide (c'.nm = c.nm) && decide (c'.to = h.nm)) = true := List.any_eq_true.mpr ⟨c, hc, by rw [decide_eq_true rfl, decide_eq_true et]; rfl⟩
      simp only [this, if_true]
      exact e2
    refine ⟨lx, ldx, lp, .ref ma, .ref (x.ts h.nm), h.nm, m, h, _, fun i r => i = (S.hs h.nm).at_ ∧ r = (S.hs h.nm).held, rfl, lo9, im8.mono (ts_same s9), ok, handOf_mem ok hm, la, .inr ⟨(S.hs h.nm).at_, (S.hs h.nm).held, ⟨x.ts h.nm, x.td h.nm, skvs9, rfl, hts9, hsd9, sbx9⟩, rfl, rfl⟩, ?_⟩
    rintro kvl lA ci co hsL H10 eA b10 frL LL kL ⟨pa, ph⟩ nts dnL cin con lns emp nod yla lant hdcd hdgd gdcd ⟨_, _, _, _, _⟩
    refine ⟨rfl, ?_⟩
    have k10 : ∀ b o, H8 b = some o → H10 b = some o := fun b o e => b10 _ _ (s9 _ _ e) fun z => by
      rw [List.mem_singleton] at z
      rw [z, nlx] at e
      cases e
    have p10 := p8.same k10
    have ho10 := ho8.same k10
    have im10 := im8.mono (ts_same k10)
    have dgT : DGet H10 x.d2 (.str h.nm) (some (.ref (x.tl h.nm))) := get_hs ok hm ▸ DGet.k (k := Sum.inr h.nm) p10.p2.d
    refine ⟨_, rfl, _, _, _, _, rfl, rfl, SqL.of p10.l, at2, _, rfl, x.d2, _, rfl, dgT, _, _, rfl, .inl (SqL.of (p10.p2.e h hm).1), fun tp ntp => ?_⟩
    obtain ⟨qL, hqL⟩ : ∃ qL : Qs, qL = fun n => if (m.cs.any fun c => decide (c.nm = n) && decide (c.to = h.nm)) = true then S.q n else [] := ⟨_, rfl⟩
    rw [← hqL] at lns
    have qto : ∀ c ∈ m.cs, c.to = h.nm → qL c.nm = S.q c.nm := fun c hc et => by
      rw [hqL]
      exact if_pos (List.any_eq_true.mpr ⟨c, hc, by rw [decide_eq_true rfl, decide_eq_true et]; rfl⟩)
    have qfr : ∀ c ∈ m.cs, c.fr = h.nm → qL c.nm = [] := fun c hc ef => by
      rw [hqL]
      refine if_neg fun z => ?_
      obtain ⟨c', hc', e⟩ := List.any_eq_true.mp z
      rw [Bool.and_eq_true] at e
      have e1 := of_decide_eq_true e.1
      obtain rfl := nm_inj ok.cn hc' hc e1
      exact ns c' hc (of_decide_eq_true e.2) ef
    have lnA : Lines H10 (ci ++ co) qL := fun y hy => by
      rcases List.mem_append.mp hy with hy | hy
      · exact lns y hy
      · have : y.1 ∈ (chFr m.cs h.nm).map (·.nm) := by rw [← con]; exact List.mem_map_of_mem (f := (·.1)) hy
        obtain ⟨c, hc, e⟩ := List.mem_map.mp this
        obtain ⟨hc1, hc2⟩ := List.mem_filter.mp hc
        refine ⟨[], emp y hy, ?_⟩
        rw [← e, qfr c hc1 (of_decide_eq_true hc2)]
        exact .nil
    have rel0 : Rel m.cs h.nm (S.hs h.nm).notes (S.hs h.nm).done S.q (S.hs h.nm) hsL S.q qL := ⟨pa.symm, ph.symm, by rw [nts, List.append_nil], by rw [dnL]; omega, fun c hc et => (qto c hc et).symm, fun c hc ef => by rw [qfr c hc ef, List.append_nil]⟩
    have ndT : ((chTo m.cs h.nm).map (·.nm)).Nodup := (List.Sublist.map _ List.filter_sublist).nodup ok.cn
    have ndF : ((chFr m.cs h.nm).map (·.nm)).Nodup := (List.Sublist.map _ List.filter_sublist).nodup ok.cn
    have nmA : ((ci ++ co).map (·.1)).Nodup := by
      rw [List.map_append, cin, con]
      refine List.nodup_append.mpr ⟨ndT, ndF, fun u hu v hv e => ?_⟩
      obtain ⟨c, hc, rfl⟩ := List.mem_map.mp hu
      obtain ⟨c', hc', rfl⟩ := List.mem_map.mp hv
      obtain ⟨h1, h2⟩ := List.mem_filter.mp hc
      obtain ⟨h3, h4⟩ := List.mem_filter.mp hc'
      obtain rfl := nm_inj ok.cn h1 h3 e
      exact ns c h1 (of_decide_eq_true h2) (of_decide_eq_true h4)
    have adr : Adr lA ci co := by
      refine ⟨by rw [cin]; exact ndT, by rw [con]; exact ndF, fun u hu v hv => ?_, fun u hu => (yla u hu).2, fun u hu => (yla u hu).1, lant, hdcd, hdgd⟩
      obtain ⟨i, hi, ei⟩ := List.mem_iff_getElem.mp hu
      obtain ⟨j, hj, ej⟩ := List.mem_iff_getElem.mp hv
      refine ⟨fun e => ?_, fun e => ?_⟩
      · have h2 : ((ci ++ co).map (·.2))[i]? = ((ci ++ co).map (·.2))[j]? := by
          rw [List.getElem?_map, List.getElem?_map, List.getElem?_eq_getElem hi, List.getElem?_eq_getElem hj, ei, ej]
          exact congrArg some e
        have := (List.getElem?_inj (by rw [List.length_map]; exact hi) nod).mp h2
        subst this
        rw [← ei, ej]
      · have h2 : ((ci ++ co).map (·.1))[i]? = ((ci ++ co).map (·.1))[j]? := by
          rw [List.getElem?_map, List.getElem?_map, List.getElem?_eq_getElem hi, List.getElem?_eq_getElem hj, ei, ej]
          exact congrArg some e
        have := (List.getElem?_inj (by rw [List.length_map]; exact hi) nmA).mp h2
        subst this
        rw [← ei, ej]
    have qL0 : ∀ c, (qL c).length ≤ 3 := fun c => by
      rw [hqL]
      dsimp only
      split
      · exact bd.2 c
      · exact Nat.zero_le _
    have own8 : ∀ b ∈ lA.p :: (lA.own ++ (ci ++ co).map (·.2)), H8 b = none := fun b hb => by
      rcases List.mem_cons.mp hb with rfl | hb
      · rw [eA]; exact nlx
      · exact none_of s9 (frL b hb)
    have dis : ∀ b ∈ lA.p :: (lA.own ++ (ci ++ co).map (·.2)), b ∉ a.all m := fun b hb z => ho8.taken b z (own8 b hb)
    have cinm : ∀ c ∈ m.cs, c.to = h.nm → ∃ l, (c.nm, l) ∈ ci := fun c hc et => by
      have : c.nm ∈ ci.map (·.1) := by rw [cin]; exact List.mem_map_of_mem (f := (·.nm)) (show c ∈ chTo m.cs h.nm from List.mem_filter.mpr ⟨hc, decide_eq_true et⟩)
      obtain ⟨y, hy, e⟩ := List.mem_map.mp this
      exact ⟨y.2, by rw [← e]; exact hy⟩
    have conm : ∀ c ∈ m.cs, c.fr = h.nm → ∃ l, (c.nm, l) ∈ co := fun c hc ef => by
      have : c.nm ∈ co.map (·.1) := by rw [con]; exact List.mem_map_of_mem (f := (·.nm)) (show c ∈ chFr m.cs h.nm from List.mem_filter.mpr ⟨hc, decide_eq_true ef⟩)
      obtain ⟨y, hy, e⟩ := List.mem_map.mp this
      exact ⟨y.2, by rw [← e]; exact hy⟩
    have tpA : tp ∉ a.mut m := fun z => ho10.taken tp (mut_all tp z) ntp
    have tpF : tp ∉ foot lA ci co := fun z => (LL.foot_nt lnA tp z).1 ntp
    have s11 : Same H10 (upd H10 tp (.lst ((S.hs h.nm).notes.map V.int))) := same_new ntp _
    have htp : upd H10 tp (.lst ((S.hs h.nm).notes.map V.int)) tp = some (.lst ((S.hs h.nm).notes.map V.int)) := upd_same
    generalize upd H10 tp (.lst ((S.hs h.nm).notes.map V.int)) = H11 at s11 htp
    have K5 : ∀ b o, H5 b = some o → H11 b = some o := fun b o e => s11 _ _ (k10 _ _ (s8 _ _ (s6 _ _ e)))
    refine ⟨12, rfl, by decide, by decide, for_it walk_range (fun i σ H' => (∃ c8 c9 c10 c11 c14, σ = [some (.ref ma), some (.ref f), some (.ref x.l), some (.ref D), some (.ref D2), some (.str h.nm), some (.ref a.p), some (.ref lp), c8, c9, c10, c11, some (.ref lx), some (.ref tp), c14, none, none]) ∧ Same H5 H' ∧ H' tp = some (.lst ((S.hs h.nm).notes.map V.int)) ∧
        ∃ S' hs' q', HouseAt K H' (.ref ma) kv m a S' ∧ LoneAt K H' kvl lA h.rows ci co hs' ∧ KsAt H' kvl m.ks ∧ Lines H' (ci ++ co) q' ∧ Rel m.cs h.nm (S.hs h.nm).notes (S.hs h.nm).done S.q (S'.hs h.nm) hs' S'.q q' ∧ SOk m S' ∧ Bnd m (3 + i) S' ∧ ∀ c, (q' c).length ≤ 3 + i)
      ⟨⟨_, _, _, _, _, rfl⟩, K5, htp, S, hsL, qL, ho10.same s11, LL.keep (ts_same s11) fun b _ o e => s11 _ _ e, kL.mono (ts_same s11), fun y hy => (lnA y hy).imp fun us hu => ⟨s11 _ _ hu.1, hu.2.mono (ts_same s11)⟩, rel0, so, bd, qL0⟩ (fun _ _ _ _ _ => trivial) ?_ ?_⟩
    · rintro i y σ H12 H13 hi ⟨⟨c8, c9, c10, c11, c14, rfl⟩, K12, tp12, S', hs', q', hA, hL, kL', lnL, rel, so', bd', qb'⟩ ⟨rfl, rfl⟩
      subst eA
      have hi12 : i < 12 := hi
      have hok := ok.hd h hm
      refine ⟨_, rfl, _, rfl, .ref ma, .ref ma, kv, m, a, S', rfl, hA, hA.im, ok, so', fun H14 s14 => ⟨_, rfl, iteF ?_⟩⟩
      have hA14 := hA.same s14
      refine ⟨_, rfl, a.p, a.dx, _, rfl, hA14.ob, pf_no _ (by decide +kernel), _, rfl, .ref ma, kv, m, a, S', h, rfl, hA14, ok, hm, fun t1 d1' kv1 H15 s15 _ _ ht1 hd1 bx1 => ?_⟩
      have s1315 := Same.tr s14 s15
      have hL15 := hL.same s1315
      refine ⟨_, rfl, lA.p, lA.dx, _, rfl, hL15.ob, lf_no _ (by decide +kernel), kvl, lA, h.rows, ci, co, hs', rfl, hL15, fun t2 d2' kv2 H16 s16 _ _ ht2 hd2 bx2 => ?_⟩
      have hsk := so'.hs h hm
      rw [← rel.held] at bx2
      rw [← rel.at_] at ht2
      have hd1' := s16 _ _ hd1
      have ed := eq_boxes ok.ks hok.bk hok.bn hsk.env hsk.nm hd1' hd2 (bx1.mono (ts_same s16)) bx2
      refine ⟨10, by decide, .inr ⟨t1, t2, _, _, rfl, rfl, s16 _ _ ht1, ht2, .cons (EqN.flat (n := 9) rfl) (.cons ed .nil)⟩, _, rfl, iteF ?_⟩
      have s1316 := Same.tr s1315 s16
      have hA16 := hA.same s1316
      refine ⟨_, rfl, a.p, a.dx, _, rfl, hA16.ob, pf_no _ (by decide +kernel), _, rfl, .ref ma, kv, m, a, S', h, rfl, hA16, ok, hm, fun tl1 H17 s17 _ htl1 => ?_⟩
      have s1317 := Same.tr s1316 s17
      have hL17 := hL.same s1317
      refine ⟨_, rfl, _, rfl, lA.p, lA.dx, _, rfl, hL17.ob, lf_no _ (by decide +kernel), kvl, lA, h.rows, ci, co, hs', rfl, hL17, fun tl2 H18 s18 _ htl2 => ?_⟩
      have s1318 := Same.tr s1317 s18
      have nlen := bd'.1 h hm
      have nlen0 := bd.1 h hm
      have nl2 : hs'.notes.length ≤ 20 := by
        have := congrArg List.length rel.notes
        rw [List.length_append] at this
        omega
      refine ⟨tp, tl2, _, _, rfl, rfl, s1318 _ _ tp12, htl2, Nat.le_of_lt (small1000 (by rw [List.length_map, List.length_map]; omega)), fun cp ncp => ?_⟩
      rw [← List.map_append, ← rel.notes]
      have s19 : Same H18 (upd H18 cp (.lst ((S'.hs h.nm).notes.map V.int))) := same_new ncp _
      refine ⟨1, by decide, .inl ⟨tl1, cp, _, _, rfl, rfl, s19 _ _ (s18 _ _ htl1), upd_same, paired_ints (n := 0) _⟩, _, rfl, iteF ?_⟩
      have s1319 := Same.tr s1318 s19
      have hA19 := hA.same s1319
      have hL19 := hL.same s1319
      have p19 := ((p5.same K12).same s1319)
      generalize upd H18 cp (.lst ((S'.hs h.nm).notes.map V.int)) = H19 at s1319 hA19 hL19 p19
      have dgC : DGet H19 x.d3 (.str h.nm) (some (.int (S.hs h.nm).done)) := get_in ok.hn hm ▸ DGet.k (k := Sum.inr h.nm) p19.p3
      refine ⟨_, rfl, a.p, a.dx, _, rfl, hA19.ob, pf_no _ (by decide +kernel), _, rfl, .ref ma, kv, m, a, S', h, rfl, hA19, ok, hm, _, rfl, _, _, _, _, rfl, rfl, SqL.of p19.l, at3', _, rfl, x.d3, _, rfl, dgC, _, rfl, lA.p, lA.dx, _, rfl, hL19.ob, lf_no _ (by decide +kernel), kvl, lA, h.rows, ci, co, hs', rfl, hL19, _, _, rfl, rfl, rfl, _, rfl, iteF' (by rw [rel.done, decide_eq_true rfl]; rfl) ?_⟩
      have ndCh : True := trivial
      have lenT : ci.length ≤ 100 := by
        have h1 := congrArg List.length cin
        rw [List.length_map, List.length_map] at h1
        have h2 : (chTo m.cs h.nm).length ≤ m.cs.length := List.length_filter_le _ _
        omega
      have lenF : co.length ≤ 100 := by
        have h1 := congrArg List.length con
        rw [List.length_map, List.length_map] at h1
        have h2 : (chFr m.cs h.nm).length ≤ m.cs.length := List.length_filter_le _ _
        omega
      have lnY : ∀ {H' : Hp}, Same H19 H' → Lines H' (ci ++ co) q' := fun {H'} s y hy => by
        obtain ⟨us, u1, u2⟩ := lnL y hy
        have k := Same.tr s1319 s
        exact ⟨us, k _ _ u1, u2.mono (ts_same k)⟩
      have tf5 : ∀ {b : Addr} {us : List V}, H1 b = some (.tup us) → b ≠ f := fun {b us} e z => by
        obtain ⟨x', y', h1, _⟩ := hf1
        rw [← z, e] at h1
        cases h1
      have k519 : ∀ b o, H5 b = some o → H19 b = some o := fun b o e => s1319 _ _ (K12 _ _ e)
      have hma19 := k519 _ _ (g15.at hma (tf5 hma))
      have hea19 := k519 _ _ (g15.at hea (tf5 hea))
      have iws19 : Ims H19 ws (m.cs.map Ch.d) := (iws.mono (hf1.ts g15)).mono (ts_same k519)
      refine ⟨_, rfl, _, _, _, _, rfl, rfl, SqT.of hma19, at1, ea, rfl, ⟨_, SqT.of hea19⟩, for_it (walk_tup (K := K) (a := ea) (xs := ws)) (fun j σ H' => (∃ c8 c9 c10 c11, σ = [some (.ref ma), some (.ref f), some (.ref x.l), some (.ref D), some (.ref D2), some (.str h.nm), some (.ref a.p), some (.ref lp), c8, c9, c10, c11, some (.ref lA.p), some (.ref tp), some (.int (0 + (i : Int))), none, none]) ∧ Same H19 H')
        ⟨⟨_, _, _, _, rfl⟩, same_refl⟩ (fun j σ H' _ hP => SqT.of (hP.2 _ _ hea19)) ?_ ?_⟩
      · rintro j y σ H30 H31 hj ⟨⟨c8, c9, c10, c11, rfl⟩, s30⟩ ⟨rfl, hy⟩
        obtain ⟨e, he, ie⟩ := iws19.of hy
        rw [List.getElem?_map] at he
        obtain ⟨c, hc, rfl⟩ := Option.map_eq_some_iff.mp he
        have cm : c ∈ m.cs := List.mem_of_getElem? hc
        obtain ⟨ta, w1, w2, w3, w4, rfl, hta, k1, k2, k3, k4⟩ := (ie.mono (ts_same s30)).t4
        cases k1.strE
        cases k2.strE
        cases k3.strE
        cases k4.strE
        refine ⟨_, _, rfl, SqT.of hta, rfl, _, _, rfl, _, _, rfl, _, _, rfl, _, _, rfl, rfl, ?_⟩
        refine ⟨_, rfl, _, rfl, rfl, _, rfl, ite2 (fun z1 => ?_) (fun z1 => iteF ?_)⟩
        · have ef : c.fr = h.nm := V.str.inj (of_decide_eq_true z1)
          have hA31 := hA19.same s30
          refine ⟨_, rfl, a.p, a.dx, _, rfl, hA31.ob, pf_no _ (by decide +kernel), _, rfl, .ref ma, kv, m, a, S', c, rfl, hA31, ok, cm, fun l1 us1 H35 s35 _ hl1 ix1 => ?_⟩
          have s1935 := Same.tr s30 s35
          have p35 := p19.same s1935
          have hL35 := hL19.same s1935
          have dgq : DGet H35 x.d1 (.str c.nm) (some (.ref (x.cl c.nm))) := get_cs ok cm ▸ DGet.k (k := Sum.inr c.nm) p35.p1.d
          obtain ⟨⟨us0, hc0, ic0⟩, _⟩ := p35.p1.e c cm
          refine ⟨_, rfl, _, _, _, _, rfl, rfl, SqL.of p35.l, at1, _, rfl, x.d1, _, rfl, dgq, _, rfl, lA.p, lA.dx, _, rfl, hL35.ob, lf_no _ (by decide +kernel), kvl, lA, h.rows, ci, co, hs', q', rfl, hL35, (fun y hy => lnY s1935 y (List.mem_append_right _ hy)), (by rw [con]; exact ndF), lenF, fun e2 ls2 H36 s36 he2 hn2 ln2 => ?_⟩
          obtain ⟨y2, hy2, ey2⟩ : ∃ y ∈ ls2, y.1 = c.nm := by
            have : c.nm ∈ ls2.map (·.1) := by rw [hn2, con]; exact List.mem_map_of_mem (f := (·.nm)) (show c ∈ chFr m.cs h.nm from List.mem_filter.mpr ⟨cm, decide_eq_true ef⟩)
            obtain ⟨y, hy, e⟩ := List.mem_map.mp this
            exact ⟨y, hy, e⟩
          have dg2 : DGet H36 e2 (.str c.nm) (some (.ref y2.2)) := by
            rw [← ey2]
            exact lnD_get (by rw [hn2, con]; exact ndF) hy2 ▸ DGet.k (k := Sum.inr y2.1) he2
          obtain ⟨vs2, hv2, iv2⟩ := ln2 y2 hy2
          rw [ey2] at iv2
          have q0l := bd.2 c.nm
          have qSl := bd'.2 c.nm
          have qq := congrArg List.length (rel.fr c cm ef)
          rw [List.length_append] at qq
          have l0 := ic0.length
          have l2 := iv2.length
          refine ⟨_, rfl, e2, _, rfl, dg2, x.cl c.nm, y2.2, _, _, rfl, rfl, s36 _ _ hc0, hv2, Nat.le_of_lt (small1000 (by omega)), fun cp2 ncp2 => ?_⟩
          have s37 : Same H36 (upd H36 cp2 (.lst (us0 ++ vs2))) := same_new ncp2 _
          have ic2 := ((ic0.mono (ts_same s36)).append iv2).mono (ts_same s37)
          rw [← rel.fr c cm ef] at ic2
          have s1937 := Same.tr s1935 (Same.tr s36 s37)
          refine ⟨9, by decide, .inl ⟨l1, cp2, _, _, rfl, rfl, s37 _ _ (s36 _ _ hl1), upd_same, paired_ims (ix1.mono (ts_same (Same.tr s36 s37))) ic2 fun d hd v u iv iu => eqV9 ok.ks (ok.ck c cm) (so'.q c cm d hd) iv iu⟩, _, rfl, iteF ?_⟩
          refine ⟨_, rfl, _, rfl, rfl, _, rfl, ite2 (fun z2 => ?_) (fun z2 => iteF ⟨⟨_, _, _, _, rfl⟩, s1937⟩)⟩
          have et : c.to = h.nm := V.str.inj (of_decide_eq_true z2)
          have hAX := hA19.same s1937
          refine ⟨_, rfl, a.p, a.dx, _, rfl, hAX.ob, pf_no _ (by decide +kernel), _, rfl, .ref ma, kv, m, a, S', c, rfl, hAX, ok, cm, fun l3 us3 H33 s33 _ hl3 ix3 => ?_⟩
          have sY := Same.tr s1937 s33
          have hLY := hL19.same sY
          refine ⟨_, rfl, lA.p, lA.dx, _, rfl, hLY.ob, lf_no _ (by decide +kernel), kvl, lA, h.rows, ci, co, hs', q', rfl, hLY, (fun y hy => lnY sY y (List.mem_append_left _ hy)), (by rw [cin]; exact ndT), lenT, fun e3 ls3 H34 s34 he3 hn3 ln3 => ?_⟩
          obtain ⟨y3, hy3, ey3⟩ : ∃ y ∈ ls3, y.1 = c.nm := by
            have : c.nm ∈ ls3.map (·.1) := by rw [hn3, cin]; exact List.mem_map_of_mem (f := (·.nm)) (show c ∈ chTo m.cs h.nm from List.mem_filter.mpr ⟨cm, decide_eq_true et⟩)
            obtain ⟨y, hy, e⟩ := List.mem_map.mp this
            exact ⟨y, hy, e⟩
          have dg3 : DGet H34 e3 (.str c.nm) (some (.ref y3.2)) := by
            rw [← ey3]
            exact lnD_get (by rw [hn3, cin]; exact ndT) hy3 ▸ DGet.k (k := Sum.inr y3.1) he3
          obtain ⟨vs3, hv3, iv3⟩ := ln3 y3 hy3
          rw [ey3, ← rel.to c cm et] at iv3
          refine ⟨_, rfl, e3, _, rfl, dg3, 9, by decide, .inl ⟨l3, y3.2, _, _, rfl, rfl, s34 _ _ hl3, hv3, paired_ims (ix3.mono (ts_same s34)) iv3 fun d hd v u iv iu => eqV9 ok.ks (ok.ck c cm) (so'.q c cm d hd) iv iu⟩, _, rfl, iteF ?_⟩
          exact ⟨⟨_, _, _, _, rfl⟩, Same.tr sY s34⟩
        · skip
          refine ⟨_, rfl, _, rfl, rfl, _, rfl, ite2 (fun z2 => ?_) (fun z2 => iteF ⟨⟨_, _, _, _, rfl⟩, s30⟩)⟩
          have et : c.to = h.nm := V.str.inj (of_decide_eq_true z2)
          have hAX := hA19.same s30
          refine ⟨_, rfl, a.p, a.dx, _, rfl, hAX.ob, pf_no _ (by decide +kernel), _, rfl, .ref ma, kv, m, a, S', c, rfl, hAX, ok, cm, fun l3 us3 H33 s33 _ hl3 ix3 => ?_⟩
          have sY := Same.tr s30 s33
          have hLY := hL19.same sY
          refine ⟨_, rfl, lA.p, lA.dx, _, rfl, hLY.ob, lf_no _ (by decide +kernel), kvl, lA, h.rows, ci, co, hs', q', rfl, hLY, (fun y hy => lnY sY y (List.mem_append_left _ hy)), (by rw [cin]; exact ndT), lenT, fun e3 ls3 H34 s34 he3 hn3 ln3 => ?_⟩
          obtain ⟨y3, hy3, ey3⟩ : ∃ y ∈ ls3, y.1 = c.nm := by
            have : c.nm ∈ ls3.map (·.1) := by rw [hn3, cin]; exact List.mem_map_of_mem (f := (·.nm)) (show c ∈ chTo m.cs h.nm from List.mem_filter.mpr ⟨cm, decide_eq_true et⟩)
            obtain ⟨y, hy, e⟩ := List.mem_map.mp this
            exact ⟨y, hy, e⟩
          have dg3 : DGet H34 e3 (.str c.nm) (some (.ref y3.2)) := by
            rw [← ey3]
            exact lnD_get (by rw [hn3, cin]; exact ndT) hy3 ▸ DGet.k (k := Sum.inr y3.1) he3
          obtain ⟨vs3, hv3, iv3⟩ := ln3 y3 hy3
          rw [ey3, ← rel.to c cm et] at iv3
          refine ⟨_, rfl, e3, _, rfl, dg3, 9, by decide, .inl ⟨l3, y3.2, _, _, rfl, rfl, s34 _ _ hl3, hv3, paired_ims (ix3.mono (ts_same s34)) iv3 fun d hd v u iv iu => eqV9 ok.ks (ok.ck c cm) (so'.q c cm d hd) iv iu⟩, _, rfl, iteF ?_⟩
          exact ⟨⟨_, _, _, _, rfl⟩, Same.tr sY s34⟩
      · rintro σ H30 ⟨⟨c8, c9, c10, c11, rfl⟩, s30⟩
        have hA30 := hA19.same s30
        have hL30 := hL19.same s30
        have lnL30 := lnY s30
        have kL30 := kL'.mono (ts_same (Same.tr s1319 s30))
        have K530 : ∀ b o, H5 b = some o → H30 b = some o := fun b o e => s30 _ _ (k519 b o e)
        have tp30 := s30 _ _ (s1319 _ _ tp12)
        have bdK : Bnd m 10000 S' := bd'.mono (by omega)
        refine ⟨_, rfl, a.p, a.dx, _, rfl, hA30.ob, pf_no _ (by decide +kernel), _, rfl, .ref ma, kv, m, a, S', h, rfl, hA30, ok, so', hm, bdK, fun H31 b31 hA31 => ?_⟩
        have ts31 := b31.ts hA30.nt
        have hL31 : LoneAt K H31 kvl lA h.rows ci co hs' := hL30.keep ts31 fun b hb o e => b31 _ _ e fun z => dis b (own_keep hb) (mut_all b z)
        have lnL31 : Lines H31 (ci ++ co) q' := lnL30.keep ts31 fun y hy o e => b31 _ _ e fun z => dis y.2 (List.mem_cons_of_mem _ (List.mem_append_right _ (List.mem_map_of_mem (f := (·.2)) hy))) (mut_all _ z)
        have kL31 := kL30.mono ts31
        have K531 : ∀ b o, H5 b = some o → H31 b = some o := fun b o e => b31 _ _ (K530 b o e) fun z => by rw [frA b (mut_all b z)] at e; cases e
        have tp31 := b31 _ _ tp30 tpA
        have so2 := stepH_ok ok so' h.nm
        have bd2 := stepH_bnd ok so' bd' h.nm
        refine ⟨_, rfl, lA.p, lA.dx, _, rfl, hL31.ob, lf_no _ (by decide +kernel), kvl, lA, ci, co, hs', m.ks, m.cs, h, q', rfl, hL31, kL31, ok.ks, hok, hsk.rel rel.at_ rel.held, lnL31, adr, cinm, conm, by omega, fun c => by have := qb' c; omega, fun e H32 s32 => ?_, fun hs2 q2 H32 e b32 L32 ln32 => ?_⟩
        · rcases rel.step ok.cn ns hok hsk.at_ with ⟨e1, _⟩ | ⟨_, _, _, _, _, e2, _⟩
          · have es := stepH_none ok hm e1
            refine ⟨rfl, _, rfl, iteF' (by rw [es]; rfl) ?_⟩
            rw [es] at hA31
            exact ⟨⟨_, _, _, _, _, rfl⟩, fun b o e => s32 _ _ (K531 b o e), s32 _ _ tp31, S', hs', q', hA31.same s32, hL31.same s32, kL31.mono (ts_same s32), lnL31.same s32, rel, so', bd'.mono (by omega), fun c => by have := qb' c; omega⟩
          · rw [e] at e2
            cases e2
        · rcases rel.step ok.cn ns hok hsk.at_ with ⟨_, e2⟩ | ⟨a', qa', b', qb2, e1, e2, rel2⟩
          · rw [e] at e2
            cases e2
          · rw [e] at e2
            cases e2
            have es := stepH_some ok hm e1
            have ts32 := b32.ts fun b hb => (hL31.foot_nt lnL31 b hb).2
            refine ⟨rfl, _, rfl, iteF' (by rw [es]; rfl) ?_⟩
            have hA32 := hA31.keep ts32 fun b hb o e => b32 _ _ e fun z => dis b (foot_own b z) hb
            rw [es] at hA32 so2 bd2
            refine ⟨⟨_, _, _, _, _, rfl⟩, fun b o e => b32 _ _ (K531 b o e) fun z => ?_, b32 _ _ tp31 tpF, _, hs2, q2, hA32, L32, kL31.mono ts32, ln32, ?_, so2, bd2, fun c => by have h1 := qb' c; have h2 := stepA_len e c; omega⟩
            · have h1 := own8 b (foot_own b z)
              rw [s8 _ _ (s6 _ _ e)] at h1
              cases h1
            · show Rel _ _ _ _ _ (if h.nm = h.nm then a' else S'.hs h.nm) _ _ _
              rw [if_pos rfl]
              exact rel2
    · rintro σ H12 _
      exact q _
end
end Sw
set_option Elab.async false
set_option linter.all false
set_option maxRecDepth 100000
set_option maxHeartbeats 4000000
/-! The law. -/
namespace Sw
open PySem PySem.Spec PyProof.Rows L2
def spLaw (K : PySem.W.Frag) : Sp := fun vs H Q _ => ∃ (a : Addr) (ns : List Int), vs = [.ref a] ∧ SqL K H a (ns.map V.int) ∧ ns.length ≤ 63 ∧ ∀ H', Q (.bl true) H'
section
variable {P : Program} {w : World} {K : PySem.W.Frag} {mg : Str → Option Value} {base : Heap}
theorem fnLaw (T : Txt K mg) {fd : FuncData} (F : FunD K "law" "law" (defArgs sLaw) (defBody sLaw) (defScope sLaw) [] [] (He.fAd K ("law", none)) fd) : FnOk P w K mg base C8.CX0 28 (He.fAd K ("law", none)) fd pLaw (spLaw K) := by
  have cGLoneAlike := calGLoneAlike (P := P) (w := w) (base := base) T
  have cGNames := calGNames (P := P) (w := w) (base := base) T
  have cGMake := calGMake (P := P) (w := w) (base := base) T
  have cGFeed := calGFeed (P := P) (w := w) (base := base) T
  have cGWeaving := calGWeaving (P := P) (w := w) (base := base) T
  have cGState := calGState (P := P) (w := w) (base := base) T
  have cGPartsOf := calGPartsOf (P := P) (w := w) (base := base) T
  have cGSpoil := calGSpoil (P := P) (w := w) (base := base) T
  have cGStill := calGStill (P := P) (w := w) (base := base) T
  have cPPlainAt := calPPlainAt (P := P) (w := w) (base := base) T
  have mPlain := makP (P := P) (w := w) (base := base) T
  have mP_Weave := metPWeave (P := P) (w := w) (base := base) T
  have mP_Step := metPStep (P := P) (w := w) (base := base) T
  refine F.ok (k := 27) scLaw (fun vs H Q E h => ?_) (fun cdv A outer s H vs Q E hr h => ?_)
  · obtain ⟨a, ns, rfl, _⟩ := h
    rfl
  obtain ⟨a, ns, rfl, hS, nsl, q⟩ := h
  have hu := hu_of hr
  refine ⟨_, PSs.nox (C8.pss_cut (ps_set (i := 1) scLaw.nd rfl (Or.inl rfl) (C8.pe_c cGNames hr (by omega) rfl (pa_cons (pe_ifExp (pt_cmpR op_gt (pe_callB (call_len_seqK (K := K) rfl) (by rfl) T.free_len PySem.boot_len (pa_cons (pv 0) pa_nil)) pe_int (nomark _)) (pe_op op_fdivW (pe_ix (ix_listK (K := K) rfl) (pv 0) pe_int (fun _ _ => rfl)) pe_int) pe_int) (pa_cons pe_int pa_nil))))
      (pss_cons (ps_set (i := 2) scLaw.nd rfl (Or.inl rfl) (C8.pe_c cGMake hr (by omega) rfl (pa_cons (pv 0) (pa_cons pe_int (pa_cons (pv 1) pa_nil)))))
      (pss_cons (ps_set (i := 3) scLaw.nd rfl (Or.inl rfl) (C8.pe_mk mPlain hr (by omega) rfl (pa_cons (pv 2) pa_nil)))
      (pss_cons (ps_set (i := 4) scLaw.nd rfl (Or.inl rfl) (pe_slice sl_list (C8.pe_c cGWeaving hr (by omega) rfl (pa_cons (pv 0) (pa_cons pe_int (pa_cons (pv 2) pa_nil)))) po_none (po_some pe_int)))
      (pss_cons (ps_expr (C8.pe_mt mP_Weave hr (by omega) (pv 3) (pa_cons (pv 4) pa_nil)))
      (pss_cons (ps_set (i := 5) scLaw.nd rfl (Or.inl rfl) (C8.pe_c cGState hr (by omega) rfl (pa_cons (pv 3) (pa_cons (pv 2) pa_nil))))
      (pss_cons (ps_set (i := 6) scLaw.nd rfl (Or.inl rfl) (C8.pe_c cGPartsOf hr (by omega) rfl (pa_cons (pv 3) (pa_cons (pv 2) pa_nil))))
      (pss_cons (ps_set (i := 7) scLaw.nd rfl (Or.inl rfl) (C8.pe_c cGPartsOf hr (by omega) rfl (pa_cons (pv 3) (pa_cons (pv 2) pa_nil))))
      (pss_cons (ps_set (i := 8) scLaw.nd rfl (Or.inl rfl) (C8.pe_c cPPlainAt hr (by omega) rfl (pa_cons (pv 2) (pa_cons (pe_ix (ix_listK (K := K) rfl) (pv 7) pe_int (fun _ _ => rfl)) (pa_cons (pe_ix (ix_listK (K := K) rfl) (pv 7) pe_int (fun _ _ => rfl)) (pa_cons (pe_ix (ix_listK (K := K) rfl) (pv 7) pe_int (fun _ _ => rfl)) (pa_cons (pe_ix (ix_listK (K := K) rfl) (pv 7) pe_int (fun _ _ => rfl)) pa_nil)))))))
      (pss_cons (ps_if (pt_cmpR (op_neX hr.units) (pv 7) (pv 6) (nomark _)) (pss_one (ps_ret pe_bl)) pss_nil)
      (pss_cons (ps_expr (C8.pe_c cGSpoil hr (by omega) rfl (pa_cons (pv 7) pa_nil)))
      (pss_cons (ps_if (PW.pt (pw_or (pt_cmpR (op_neX hr.units) (C8.pe_c cGState hr (by omega) rfl (pa_cons (pv 8) (pa_cons (pv 2) pa_nil))) (pv 5) (nomark _)) (pw_or1 (pt_not (pt_val (C8.pe_c cGStill hr (by omega) rfl (pa_cons (pv 8) (pa_cons (pv 2) pa_nil)))))))) (pss_one (ps_ret pe_bl)) pss_nil)
      (pss_cons (ps_for PassesOwn.never rfl (pi_list (pe_revL (pv 4))) (pg_name (i := 9) scLaw.nd rfl (Or.inl rfl))
        (pss_one (ps_if (PW.pt (pw_or (pt_cmpR op_ne (C8.pe_mt mP_Step hr (by omega) (pv 3) (pa_cons (pv 9) pa_nil)) (C8.pe_mt mP_Step hr (by omega) (pv 8) (pa_cons (pv 9) pa_nil)) (nomark _)) (pw_or1 (pt_cmpR (op_neX hr.units) (C8.pe_c cGState hr (by omega) rfl (pa_cons (pv 3) (pa_cons (pv 2) pa_nil))) (C8.pe_c cGState hr (by omega) rfl (pa_cons (pv 8) (pa_cons (pv 2) pa_nil))) (nomark _))))) (pss_one (ps_ret pe_bl)) pss_nil)))
      (pss_one (ps_ret (C8.pe_c cGLoneAlike hr (by omega) rfl (pa_cons (pv 2) (pa_cons (C8.pe_c cGFeed hr (by omega) rfl (pa_cons (pv 0) (pa_cons pe_int pa_nil))) pa_nil)))))))))))))))))), ?_⟩
  refine ⟨fun σ' H' => ∃ (nl : Addr) (ws : List Str), σ' = [some (.ref a), some (.ref nl), none, none, none, none, none, none, none, none] ∧ Same H H' ∧ H' nl = some (.lst (ws.map V.str)) ∧ NmOk ws, ?_, ?_⟩
  · refine ⟨_, rfl, a, _, rfl, .inl hS, _, _, rfl, rfl, _, rfl, ite2 (fun c => ?_) (fun c => ?_)⟩
    · have c' : (0 : Int) < ((ns.map V.int).length : Int) := of_decide_eq_true c
      rw [List.length_map] at c'
      obtain ⟨z, hz⟩ : ∃ z, ns[0]? = some z := ⟨_, List.getElem?_eq_getElem (by omega)⟩
      exact ⟨_, rfl, _, _, _, V.int z, rfl, rfl, hS, atI_nat (j := 0) (by rw [List.getElem?_map, hz]; rfl), _, _, rfl, rfl, divw (by decide) (by decide), _, rfl, fun l ws H1 _ s1 h1 nm => ⟨l, ws, rfl, s1, h1, nm⟩⟩
    · exact ⟨_, rfl, fun l ws H1 _ s1 h1 nm => ⟨l, ws, rfl, s1, h1, nm⟩⟩
  rintro σ1 H1 ⟨nl, ws, rfl, s1, hnl, nm⟩
  refine ⟨_, rfl, _, rfl, a, nl, 1, ns, ws, rfl, sql_same hS s1, nsl, by decide, hnl, nm, fun mv m H2 s2 im ok hl4 => ?_⟩
  have s12 := Same.tr s1 s2
  refine ⟨_, rfl, fun x dx nx ndx dxx => ?_⟩
  have nx1 : upd H2 dx (.own x) x = none := by rw [upd_ne (Ne.symm dxx)]; exact nx
  have s3 : Same H2 (upd (upd H2 dx (.own x)) x (.ins (PC K) dx [])) := Same.tr (same_new ndx _) (same_new nx1 _)
  refine ⟨x, dx, mv, m, rfl, upd_same, im.mono (ts_same s3), ok, fun kv a1 S0 H3 ea b3 fr3 ho so bd mx => ⟨rfl, ?_⟩⟩
  have s23 : Same H2 H3 := fun b o e => b3 _ _ (s3 _ _ e) fun z => by
    rw [List.mem_singleton] at z
    rw [z, nx] at e
    cases e
  have frA : ∀ b ∈ a1.all m, H2 b = none := fun b hb => by
    by_cases z : b = x
    · rw [z]; exact nx
    · cases e : H2 b with
      | none => rfl
      | some o => have := fr3 b hb z; rw [s3 _ _ e] at this; cases this
  clear b3 fr3 s3 nx1 mx
  subst ea
  have im3 := im.mono (ts_same s23)
  have s13 := Same.tr s12 s23
  refine ⟨_, rfl, _, rfl, a, mv, ns, m, rfl, sql_same hS s13, nsl, im3, ok, fun l xs H4 s4 nl4 hl xok xlen => ?_⟩
  have ce : cutV (xs.map V.str) none (some 100) = (xs.take 100).map V.str := by
    unfold cutV
    rw [HT.sIx_none, show (some 100 : Option Int) = some ((100 : Nat) : Int) from rfl, HT.sIx_nat, List.drop_zero, List.length_map, List.map_take, Nat.sub_zero]
    by_cases c : xs.length ≤ 100
    · rw [List.take_of_length_le (by rw [List.length_map]; omega), List.take_of_length_le (by rw [List.length_map]; omega)]
    · rw [Nat.min_eq_left (by omega)]
  refine ⟨_, rfl, l, _, rfl, SqL.of hl, fun p np => ?_⟩
  rw [ce]
  have s5 : Same H4 (upd H4 p (.lst ((xs.take 100).map V.str))) := same_new np _
  have hp5 : upd H4 p (.lst ((xs.take 100).map V.str)) p = some (.lst ((xs.take 100).map V.str)) := upd_same
  generalize upd H4 p (.lst ((xs.take 100).map V.str)) = H5 at s5 hp5
  have s35 := Same.tr s4 s5
  have ho5 := ho.same s35
  have pm : p ∉ a1.mut m := fun z => ho.taken p (mut_all p z) (none_of s4 np)
  refine ⟨_, rfl, a1.p, a1.dx, _, rfl, ho5.ob, pf_no _ (by decide +kernel), _, rfl, mv, kv, m, a1, S0, p, xs.take 100, 0, rfl, ho5, ok, so, hp5, pm, fun y hy => xok y (List.mem_of_mem_take hy), bd, by rw [List.length_take]; omega, fun i H6 b6 ho6 => ?_⟩
  have so1 : SOk m (weaveH m (xs.take 100) S0) := weaveH_ok ok so
  have bd1 : Bnd m 100 (weaveH m (xs.take 100) S0) := (weaveH_bnd ok (l := xs.take 100) so bd).mono (by rw [List.length_take]; omega)
  generalize weaveH m (xs.take 100) S0 = S1 at ho6 so1 bd1
  have hp6 := b6 _ _ hp5 pm
  have S26 : Same H2 H6 := fun b o e => b6 _ _ (s35 _ _ (s23 _ _ e)) fun z => by rw [frA b (mut_all b z)] at e; cases e
  refine ⟨_, rfl, _, rfl, mv, mv, kv, m, a1, S1, rfl, ho6, ho6.im, ok, fun dv H7 s7 sd => ?_⟩
  have ho7 := ho6.same s7
  refine ⟨_, rfl, _, rfl, mv, mv, kv, m, a1, S1, rfl, ho7, ho7.im, ok, fun x7 H8 s8 p7 => ?_⟩
  have ho8 := ho7.same s8
  refine ⟨_, rfl, _, rfl, mv, mv, kv, m, a1, S1, rfl, ho8, ho8.im, ok, fun x8 H9 s9 p8 => ?_⟩
  have ho9 := ho8.same s9
  have bdK : Bnd m 1000 S1 := bd1.mono (by decide)
  refine ⟨_, rfl, _, rfl, _, _, _, _, rfl, rfl, SqL.of p8.l, at0, _, rfl, _, _, _, _, rfl, rfl, SqL.of p8.l, at1, _, rfl, _, _, _, _, rfl, rfl, SqL.of p8.l, at2, _, rfl, _, _, _, _, rfl, rfl, SqL.of p8.l, at3', mv, m, x8.d0, x8.d1, x8.d2, x8.d3, S1, rfl, ho9.im, ok, p8.four ok, so1, bdK, fun kv2 a2 H10 s10 frB ho10 => ?_⟩
  have p10 := p8.same s10
  have p10' := (p7.same s9).same s10
  refine ⟨_, rfl, _, rfl, 14, by decide, .inl ⟨_, _, _, _, rfl, rfl, p10.l, p10'.l, p10.eq p10' ok so1⟩, _, rfl, iteF ?_⟩
  refine ⟨_, rfl, H8, m, x8, S1, rfl, p10, ok, bd1.mono (by decide), fun H11 b11 => ?_⟩
  -- what is new is spoiled, not the houses
  have S8 : Same H8 H11 := fun b o e => b11 _ _ (s10 _ _ (s9 _ _ e)) fun z => by rw [p8.fresh b z] at e; cases e
  have ho11a := ho8.same S8
  have mut_nt : ∀ b ∈ x8.mut m, ∀ us, H10 b ≠ some (.tup us) := p10.nt
  have ts11 := b11.ts mut_nt
  have ho11 : HouseAt K H11 mv kv2 m a2 S1 := ho10.keep ts11 fun b hb o e => b11 _ _ e fun z => p8.there b z (frB b hb)
  have sd11 : StateAt H11 m S1 dv := (sd.same s8).same S8
  refine ⟨_, rfl, _, rfl, mv, mv, kv2, m, a2, S1, rfl, ho11, ho11.im, ok, fun dv2 H12 s12' sd2 => ?_⟩
  obtain ⟨n, hn, heq⟩ := sd2.eq ok so1 (sd11.same s12')
  refine ⟨_, rfl, n, hn, heq, _, rfl, iteF ?_⟩
  have ho12 := ho11.same s12'
  have ho12a := ho11a.same s12'
  refine ⟨_, rfl, _, rfl, mv, mv, kv2, m, a2, S1, rfl, ho12, ho12.im, ok, so1, fun H13 s13' => ⟨_, rfl, iteF ?_⟩⟩
  have ho13 := ho12.same s13'
  have ho13a := ho12a.same s13'
  have S2 : Same H2 H13 := Same.tr S26 (Same.tr s7 (Same.tr s8 (Same.tr S8 (Same.tr s12' s13'))))
  have hp13 : H13 p = some (.lst ((xs.take 100).map V.str)) := s13' _ _ (s12' _ _ (S8 _ _ (s8 _ _ (s7 _ _ hp6))))
  have dis : ∀ b ∈ a2.all m, b ∉ a1.all m := fun b hb z => ho9.taken b z (frB b hb)
  have frB2 : ∀ b ∈ a2.all m, H2 b = none := fun b hb => by
    cases e : H2 b with
    | none => rfl
    | some o => have := (Same.tr S26 (Same.tr s7 (Same.tr s8 s9))) _ _ e; rw [frB b hb] at this; cases this
  refine ⟨_, rfl, p, _, rfl, SqL.of hp13, fun r nr => ?_⟩
  rw [← List.map_reverse]
  have s14 : Same H13 (upd H13 r (.lst ((xs.take 100).reverse.map V.str))) := same_new nr _
  have hr14 : upd H13 r (.lst ((xs.take 100).reverse.map V.str)) r = some (.lst ((xs.take 100).reverse.map V.str)) := upd_same
  generalize upd H13 r (.lst ((xs.take 100).reverse.map V.str)) = H14 at s14 hr14
  have rm1 : r ∉ a1.all m := fun z => ho13a.taken r z nr
  have rm2 : r ∉ a2.all m := fun z => ho13.taken r z nr
  refine ⟨r, rfl, ⟨_, SqL.of hr14⟩, for_it (walk_list (K := K) (a := r) (xs := (xs.take 100).reverse.map V.str)) (fun i σ H' => (∃ c9, σ = [some (.ref a), some (.ref nl), some mv, some (.ref a1.p), some (.ref p), some dv, some (.ref x7.l), some (.ref x8.l), some (.ref a2.p), c9]) ∧ Same H2 H' ∧ H' r = some (.lst ((xs.take 100).reverse.map V.str)) ∧
      ∃ S, HouseAt K H' mv kv m a1 S ∧ HouseAt K H' mv kv2 m a2 S ∧ SOk m S ∧ Bnd m (100 + i) S)
    ⟨⟨_, rfl⟩, Same.tr S2 s14, hr14, S1, ho13a.same s14, ho13.same s14, so1, bd1⟩ (fun i σ H' _ hP => SqL.of hP.2.2.1) ?_ ?_⟩
  · rintro i y σ H15 H16 hi ⟨⟨c9, rfl⟩, S15, hr15, S, hA, hB, so, bd⟩ ⟨rfl, hy⟩
    have hi100 : i < 100 := by
      rw [List.length_map, List.length_reverse, List.length_take] at hi
      omega
    rw [List.getElem?_map] at hy
    obtain ⟨nm0, hn0, rfl⟩ := Option.map_eq_some_iff.mp hy
    obtain ⟨h, hm, rfl⟩ := xok nm0 (List.mem_of_mem_take (List.mem_reverse.mp (List.mem_of_getElem? hn0)))
    have bdK : Bnd m 10000 S := bd.mono (by omega)
    refine ⟨_, rfl, a1.p, a1.dx, _, rfl, hA.ob, pf_no _ (by decide +kernel), _, rfl, mv, kv, m, a1, S, h, rfl, hA, ok, so, hm, bdK, fun H17 b17 hA17 => ?_⟩
    have hB17 : HouseAt K H17 mv kv2 m a2 S := hB.keep (b17.ts hA.nt) fun b hb o e => b17 _ _ e fun z => dis b hb (mut_all b z)
    refine ⟨_, rfl, a2.p, a2.dx, _, rfl, hB17.ob, pf_no _ (by decide +kernel), _, rfl, mv, kv2, m, a2, S, h, rfl, hB17, ok, so, hm, bdK, fun H18 b18 hB18 => ?_⟩
    have hA18 : HouseAt K H18 mv kv m a1 (stepH m h.nm S).2 := hA17.keep (b18.ts hB17.nt) fun b hb o e => b18 _ _ e fun z => dis b (mut_all b z) hb
    have so' := stepH_ok ok so h.nm
    have bd' := stepH_bnd ok so bd h.nm
    have S18 : Same H2 H18 := fun b o e => b18 _ _ (b17 _ _ (S15 _ _ e) fun z => by rw [frA b (mut_all b z)] at e; cases e) fun z => by rw [frB2 b (mut_all b z)] at e; cases e
    have hr18 := b18 _ _ (b17 _ _ hr15 fun z => rm1 (mut_all r z)) fun z => rm2 (mut_all r z)
    refine ⟨rfl, _, rfl, iteF' (by rw [decide_eq_true rfl]; rfl) ?_⟩
    refine ⟨_, rfl, _, rfl, mv, mv, kv, m, a1, _, rfl, hA18, hA18.im, ok, fun v1 H19 s19 sd1 => ?_⟩
    have hB19 := hB18.same s19
    refine ⟨_, rfl, _, rfl, mv, mv, kv2, m, a2, _, rfl, hB19, hB19.im, ok, fun v2 H20 s20 sd2 => ?_⟩
    obtain ⟨n, hn, heq⟩ := (sd1.same s20).eq ok so' sd2
    refine ⟨n, hn, heq, _, rfl, iteF ?_⟩
    exact ⟨⟨_, rfl⟩, Same.tr S18 (Same.tr s19 s20), s20 _ _ (s19 _ _ hr18), _, (hA18.same s19).same s20, hB19.same s20, so', bd'⟩
  · rintro σ H15 ⟨⟨c9, rfl⟩, S15, hr15, S, hA, hB, so, bd⟩
    refine ⟨_, rfl, _, rfl, a, ns, 7, rfl, sql_same hS (Same.tr s12 S15), nsl, by decide, fun f H16 nf s16 fd => ?_⟩
    exact ⟨mv, f, m, rfl, fd, hA.im.mono (ts_same s16), ok, hl4, fun H' => q H'⟩
end
end Sw
set_option Elab.async false
set_option linter.all false
set_option maxRecDepth 100000
set_option maxHeartbeats 0
namespace Sw
open PySem PySem.Spec PyProof.Rows L2
abbrev R : PySem.W.OpenRow := PySem.W.OpenLaw.row PySem.Challenge.rw_swapstride_k39_houses_begun_amid
abbrev hk : PySem.W.Hook := He.hookD 5 fa fn
def ob (s : PySem.W.SharedT) : He.AlD := He.obsDG 5 fa fn (HandSHeadRun.getT s)
theorem ob_eq (s : PySem.W.SharedT) : ob s = hk.obs s.abs := He.obsDG_eq (HandSHeadRun.getT_eq s)
def loose : List Str := (["named", "hand_of", "ways_of", "kind_told", "sort_of", "parts_of", "WIDE", "nought", "field", "worth_of_two", "worth_of_case", "worth", "first_stand", "copied", "Lone", "Plain", "plain_at", "_law_feed", "_law_take", "_law_names", "_law_number", "_law_sort_of", "_law_size", "_law_small", "_law_parts", "_law_kinds", "_law_boxed", "_law_arms", "_law_whole_term", "_law_term"] : List Str) ++ (["_law_new_term", "_law_any_kind", "_law_channels", "_law_boxes", "_law_into", "_law_deal", "_law_rows", "_law_make", "_law_hands", "_law_value", "_law_hands_of", "_law_weaving", "_law_state", "_law_parts_of", "_law_own", "_law_spoil", "_law_still", "_law_lone_alike"] : List Str)
theorem run (w : World) : HandSHeadRun.RunEq R (PySem.W.view R.prog [55]) hk ob 4000 loose w := by
  intro os
  kernel_rfl
end Sw
set_option Elab.async false
set_option linter.all false
set_option maxRecDepth 100000
set_option maxHeartbeats 4000000
/-! The end: the head's facts, the walk of the law. -/
namespace Sw
open PySem PySem.Spec PyProof.Rows L2
theorem facts {P : Program} {w : World} {K : PySem.W.Frag} {h : Heap} {mg : Str → Option Value} {f : Addr} (X : K.In h) (G : h.Ns mainGlobals mg) (hfa : mg ("law" : Str) = some (.ref f)) (c : He.SaysD fa fn K) :
    ∃ fd : FuncData, (∀ (s : Shared) (v : Value), BindsTo s fd ⟨[v], []⟩ [("_law_script", v)]) ∧ ∀ base : Heap, FnOk P w K mg base C8.CX0 28 f fd pLaw (spLaw K) := by
  have T : Txt K mg := ⟨c, h, X, G⟩
  obtain ⟨fd, F⟩ := T.fLaw
  have e := hfa.symm.trans T.glo_law
  have e2 : f = He.fAd K ("law", none) := Value.ref.inj (Option.some.inj e)
  subst e2
  have b := FunD.bindsA (ps := pLaw) F fun _ _ _ _ _ _ us hl => match us, hl with | [_], _ => rfl
  exact ⟨fd, fun s v => b s [v] rfl, fun base => fnLaw T F⟩
end Sw
set_option maxHeartbeats 0
open PySem PySem.W PySem.Calls PyProof.Rows
theorem PySem.Challenge.cw_swapstride_k39_houses_begun_amid_holds : PySem.Challenge.rw_swapstride_k39_houses_begun_amid.Holds := by
  w_on; o_law
  refine HandSHeadRun.head_any (r := OpenLaw.row PySem.Challenge.rw_swapstride_k39_houses_begun_amid) (q := view (OpenLaw.row PySem.Challenge.rw_swapstride_k39_houses_begun_amid).prog [55]) (H := Sw.hk) (ob := Sw.ob) (M := 4000) (loose := Sw.loose) (d := HandSHeadRun.topDef (OpenLaw.row PySem.Challenge.rw_swapstride_k39_houses_begun_amid).prog 55) (kwd := []) Sw.ob_eq
    (by kernel_rfl) (fun s => by kernel_rfl) Sw.run (by kernel_rfl) (by kernel_rfl) (by kernel_rfl) (by rfl) (by first | assumption | decide +kernel) (by decide +kernel) ⟨rfl, rfl, rfl, rfl, rfl, by decide +kernel⟩ ?hw ?hc
  case hw => w_witness2
  case hc =>
    refine L2.walk_ofE (l := PySem.Challenge.rw_swapstride_k39_houses_begun_amid) (n := 63) (k := 28) (x := "_law_script") (CX := C8.CX0) rfl (by decide) (by kernel_rfl) ⟨rfl, by decide, by decide⟩ ?F (fun _ _ _ _ z => z)
    intro w mg fa h Y G hmg0
    obtain ⟨K, KX, c⟩ := Y
    have hmg : mg ("law" : PySem.Str) = some (.ref fa) := by
      have e : (HandSHeadRun.topDef (OpenLaw.row PySem.Challenge.rw_swapstride_k39_houses_begun_amid).prog 55).name = ("law" : PySem.Str) := by kernel_rfl
      rw [← e]
      exact hmg0
    obtain ⟨fd, hb, hF⟩ := Sw.facts (P := (PySem.Challenge.rw_swapstride_k39_houses_begun_amid).prog) (w := w) KX G hmg c
    exact ⟨K, fd, Sw.spLaw K, KX, hb, fun H a ns hl _ hS => ⟨a, ns, rfl, hS, hl, fun _ => rfl⟩, fun base _ _ => hF base⟩
