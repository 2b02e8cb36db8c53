import PyProof.Rows.All
import Wide.All
import OpenK.AllK
import Wide.FinOn
import KE.KStateDown
import Lean
import HandS.ForExc
import HandS.ForMost
import HandS.Defaults
import HandS.ExcIs
import HandS.IsInst
import HandS.Head0
import HandS.Head1
import HandS.Head2
import HandS.HeadEnd
import HandS.HeadHook1
import HandS.HeadHook2
import HandS.Deep
import HandS.Wide
import HandS.TupAny
import HandS.NoneIn
import HandS.CallRecv
import HandS.WideBits
import KE.GoesEnum
import KE.SortData
import HandS.Conv
import HandS.ListItems
import HandS.DictTup
import KE.KDictItemsList
import KE.KDictWalk
import HandS.Dict
import KE.KeyNested
import HandS.TupSets
import PySem.Challenge.RW_endwise_k53_whole_calls_found
set_option Elab.async false
set_option linter.all false
set_option maxRecDepth 100000
set_option maxHeartbeats 0
namespace K53
open PySem PySem.Spec PyProof.Rows L2
/-! ### the text by places -/
def top (i : Nat) : Stmt := PySem.Challenge.pw_endwise_k53_whole_calls_found.main.body.getD i (.Pass ⟨0, 0, 0, 0⟩)
abbrev sIsWhole : Stmt := top 16
abbrev sIsName : Stmt := top 17
abbrev sIsHead : Stmt := top 18
abbrev sPartsWithin : Stmt := top 19
abbrev sIsTerm : Stmt := top 20
abbrev sHead : Stmt := top 21
abbrev sPartsFrom : Stmt := top 22
abbrev sPartsOf : Stmt := top 23
abbrev sBlanks : Stmt := top 24
abbrev sMadeHeads : Stmt := top 28
abbrev sSidesOfCalls : Stmt := top 29
abbrev sLedFrom : Stmt := top 30
abbrev sLeads : Stmt := top 31
abbrev sIsPart : Stmt := top 32
abbrev sIsChoice : Stmt := top 33
abbrev sCallsInit : Stmt := inClass (top 34) 0
abbrev sCallsTold : Stmt := inClass (top 34) 1
abbrev sCallsHasPlace : Stmt := inClass (top 34) 2
abbrev sCallsStands : Stmt := inClass (top 34) 3
abbrev sCallsLets : Stmt := inClass (top 34) 5
abbrev sChoicesOf : Stmt := top 35
abbrev sCallsOf : Stmt := top 36
abbrev sIsRule : Stmt := top 39
abbrev sRulesInit : Stmt := inClass (top 40) 0
abbrev sRulesTold : Stmt := inClass (top 40) 1
abbrev sLawWhole : Stmt := top 42
abbrev sLawSpread : Stmt := top 43
abbrev sLawMixed : Stmt := top 44
abbrev sLawNames : Stmt := top 45
abbrev sLawPlace : Stmt := top 46
abbrev sLawCall : Stmt := top 47
abbrev sLawRule : Stmt := top 48
abbrev sLawHead : Stmt := top 49
abbrev sLawHeads : Stmt := top 50
abbrev sLawRinged : Stmt := top 51
abbrev sLawChoices : Stmt := top 52
abbrev sLawRight : Stmt := top 53
abbrev sLawAnswer : Stmt := top 54
abbrev sLawDown : Stmt := top 55
abbrev sLawMany : Stmt := top 56
abbrev sLaw : Stmt := top 57
abbrev FnP (K : PySem.W.Frag) (x q : Str) (st : Stmt) (f : Addr) (fd : FuncData) : Prop := FunD K x q (defArgs st) (defBody st) (defScope st) [] [] f fd
/-! ### the head: facts by names -/
def dIsWhole : He.DefD := ⟨("is_whole", none), "is_whole", "is_whole", defArgs sIsWhole, defBody sIsWhole, defScope sIsWhole, [], []⟩
def dIsName : He.DefD := ⟨("is_name", none), "is_name", "is_name", defArgs sIsName, defBody sIsName, defScope sIsName, [], []⟩
def dIsHead : He.DefD := ⟨("is_head", none), "is_head", "is_head", defArgs sIsHead, defBody sIsHead, defScope sIsHead, [], []⟩
def dPartsWithin : He.DefD := ⟨("parts_within", none), "parts_within", "parts_within", defArgs sPartsWithin, defBody sPartsWithin, defScope sPartsWithin, [], []⟩
def dIsTerm : He.DefD := ⟨("is_term", none), "is_term", "is_term", defArgs sIsTerm, defBody sIsTerm, defScope sIsTerm, [], []⟩
def dHead : He.DefD := ⟨("head", none), "head", "head", defArgs sHead, defBody sHead, defScope sHead, [], []⟩
def dPartsFrom : He.DefD := ⟨("parts_from", none), "parts_from", "parts_from", defArgs sPartsFrom, defBody sPartsFrom, defScope sPartsFrom, [], []⟩
def dPartsOf : He.DefD := ⟨("parts_of", none), "parts_of", "parts_of", defArgs sPartsOf, defBody sPartsOf, defScope sPartsOf, [], []⟩
def dBlanks : He.DefD := ⟨("blanks", none), "blanks", "blanks", defArgs sBlanks, defBody sBlanks, defScope sBlanks, [], []⟩
def dMadeHeads : He.DefD := ⟨("made_heads", none), "made_heads", "made_heads", defArgs sMadeHeads, defBody sMadeHeads, defScope sMadeHeads, [], []⟩
def dSidesOfCalls : He.DefD := ⟨("sides_of_calls", none), "sides_of_calls", "sides_of_calls", defArgs sSidesOfCalls, defBody sSidesOfCalls, defScope sSidesOfCalls, [], []⟩
def dLedFrom : He.DefD := ⟨("led_from", none), "led_from", "led_from", defArgs sLedFrom, defBody sLedFrom, defScope sLedFrom, [], []⟩
def dLeads : He.DefD := ⟨("leads", none), "leads", "leads", defArgs sLeads, defBody sLeads, defScope sLeads, [], []⟩
def dIsPart : He.DefD := ⟨("is_part", none), "is_part", "is_part", defArgs sIsPart, defBody sIsPart, defScope sIsPart, [], []⟩
def dIsChoice : He.DefD := ⟨("is_choice", none), "is_choice", "is_choice", defArgs sIsChoice, defBody sIsChoice, defScope sIsChoice, [], []⟩
def dCallsInit : He.DefD := ⟨("Calls", some "__init__"), "__init__", "Calls.__init__", defArgs sCallsInit, defBody sCallsInit, defScope sCallsInit, [], []⟩
def dCallsTold : He.DefD := ⟨("Calls", some "told"), "told", "Calls.told", defArgs sCallsTold, defBody sCallsTold, defScope sCallsTold, [], []⟩
def dCallsHasPlace : He.DefD := ⟨("Calls", some "has_place"), "has_place", "Calls.has_place", defArgs sCallsHasPlace, defBody sCallsHasPlace, defScope sCallsHasPlace, [], []⟩
def dCallsStands : He.DefD := ⟨("Calls", some "stands"), "stands", "Calls.stands", defArgs sCallsStands, defBody sCallsStands, defScope sCallsStands, [], []⟩
def dCallsLets : He.DefD := ⟨("Calls", some "lets"), "lets", "Calls.lets", defArgs sCallsLets, defBody sCallsLets, defScope sCallsLets, [], []⟩
def dChoicesOf : He.DefD := ⟨("choices_of", none), "choices_of", "choices_of", defArgs sChoicesOf, defBody sChoicesOf, defScope sChoicesOf, [], []⟩
def dCallsOf : He.DefD := ⟨("calls_of", none), "calls_of", "calls_of", defArgs sCallsOf, defBody sCallsOf, defScope sCallsOf, [], []⟩
def dIsRule : He.DefD := ⟨("is_rule", none), "is_rule", "is_rule", defArgs sIsRule, defBody sIsRule, defScope sIsRule, [], []⟩
def dRulesInit : He.DefD := ⟨("Rules", some "__init__"), "__init__", "Rules.__init__", defArgs sRulesInit, defBody sRulesInit, defScope sRulesInit, [], []⟩
def dRulesTold : He.DefD := ⟨("Rules", some "told"), "told", "Rules.told", defArgs sRulesTold, defBody sRulesTold, defScope sRulesTold, [], []⟩
def dLawWhole : He.DefD := ⟨("_law_whole", none), "_law_whole", "_law_whole", defArgs sLawWhole, defBody sLawWhole, defScope sLawWhole, [], []⟩
def dLawSpread : He.DefD := ⟨("_law_spread", none), "_law_spread", "_law_spread", defArgs sLawSpread, defBody sLawSpread, defScope sLawSpread, [], []⟩
def dLawMixed : He.DefD := ⟨("_law_mixed", none), "_law_mixed", "_law_mixed", defArgs sLawMixed, defBody sLawMixed, defScope sLawMixed, [], []⟩
def dLawNames : He.DefD := ⟨("_law_names", none), "_law_names", "_law_names", defArgs sLawNames, defBody sLawNames, defScope sLawNames, [], []⟩
def dLawPlace : He.DefD := ⟨("_law_place", none), "_law_place", "_law_place", defArgs sLawPlace, defBody sLawPlace, defScope sLawPlace, [], []⟩
def dLawCall : He.DefD := ⟨("_law_call", none), "_law_call", "_law_call", defArgs sLawCall, defBody sLawCall, defScope sLawCall, [], []⟩
def dLawRule : He.DefD := ⟨("_law_rule", none), "_law_rule", "_law_rule", defArgs sLawRule, defBody sLawRule, defScope sLawRule, [], []⟩
def dLawHead : He.DefD := ⟨("_law_head", none), "_law_head", "_law_head", defArgs sLawHead, defBody sLawHead, defScope sLawHead, [], []⟩
def dLawHeads : He.DefD := ⟨("_law_heads", none), "_law_heads", "_law_heads", defArgs sLawHeads, defBody sLawHeads, defScope sLawHeads, [], []⟩
def dLawRinged : He.DefD := ⟨("_law_ringed", none), "_law_ringed", "_law_ringed", defArgs sLawRinged, defBody sLawRinged, defScope sLawRinged, [], []⟩
def dLawChoices : He.DefD := ⟨("_law_choices", none), "_law_choices", "_law_choices", defArgs sLawChoices, defBody sLawChoices, defScope sLawChoices, [], []⟩
def dLawRight : He.DefD := ⟨("_law_right", none), "_law_right", "_law_right", defArgs sLawRight, defBody sLawRight, defScope sLawRight, [], []⟩
def dLawAnswer : He.DefD := ⟨("_law_answer", none), "_law_answer", "_law_answer", defArgs sLawAnswer, defBody sLawAnswer, defScope sLawAnswer, [], []⟩
def dLawDown : He.DefD := ⟨("_law_down", none), "_law_down", "_law_down", defArgs sLawDown, defBody sLawDown, defScope sLawDown, [], []⟩
def dLawMany : He.DefD := ⟨("_law_many", none), "_law_many", "_law_many", defArgs sLawMany, defBody sLawMany, defScope sLawMany, [], []⟩
def dLaw : He.DefD := ⟨("law", none), "law", "law", defArgs sLaw, defBody sLaw, defScope sLaw, [], []⟩
def fn1 : List He.DefD := [dIsWhole, dIsName, dIsHead, dPartsWithin, dIsTerm, dHead, dPartsFrom, dPartsOf, dBlanks, dMadeHeads, dSidesOfCalls, dLedFrom, dLeads, dIsPart, dIsChoice, dCallsInit, dCallsTold, dCallsHasPlace, dCallsStands, dCallsLets]
def fn2 : List He.DefD := [dChoicesOf, dCallsOf, dIsRule, dRulesInit, dRulesTold, dLawWhole, dLawSpread, dLawMixed, dLawNames, dLawPlace, dLawCall, dLawRule, dLawHead, dLawHeads, dLawRinged, dLawChoices, dLawRight, dLawAnswer, dLawDown, dLawMany, dLaw]
def fn : List He.DefD := fn1 ++ fn2
def fa0 : List He.Fa := [.glo "is_whole", .glo "is_name", .glo "is_head", .glo "parts_within", .glo "is_term", .glo "head", .glo "parts_from", .glo "parts_of", .glo "blanks", .glo "made_heads", .glo "sides_of_calls", .glo "led_from", .glo "leads", .glo "is_part", .glo "is_choice", .glo "choices_of", .glo "calls_of", .glo "is_rule", .glo "_law_whole", .glo "_law_spread"]
def fa1 : List He.Fa := [.glo "_law_mixed", .glo "_law_names", .glo "_law_place", .glo "_law_call", .glo "_law_rule", .glo "_law_head", .glo "_law_heads", .glo "_law_ringed", .glo "_law_choices", .glo "_law_right", .glo "_law_answer", .glo "_law_down", .glo "_law_many", .glo "law", .glo "EndError", .glo "NoPaper", .glo "TooMany", .glo "NoRule", .glo "Paper", .glo "Calls"]
def fa2 : List He.Fa := [.glo "Rules", .free "isinstance", .free "len", .free "all", .free "any", .free "sorted", .free "set", .free "list", .free "tuple", .free "int", .free "str", .free "bool", .free "divmod", .free "range", .free "enumerate", .int "LONGEST_NAME" 8, .int "MOST_BLANK" 999, .int "MOST_PLACES" 9, .int "MOST_LEVELS" 60, .int "MOST_PARTS" 1000]
def fa3 : List He.Fa := [.int "MOST_CHOSEN" 60, .int "MOST_CHOICES" 3000, .int "MOST_RULES" 40, .str "LETTERS" "abcdefghijklmnopqrstuvwxyz", .cls "Calls", .cls "Rules", .noat "Calls" "place_of", .noat "Rules" "kept", .meth "Calls" "told", .meth "Calls" "has_place", .meth "Calls" "stands", .meth "Calls" "lets", .meth "Rules" "told", .mkr "Calls", .mkr "Rules", .exc "TooMany", .exm "TooMany" "EndError" true]
def fa : List He.Fa := fa0 ++ fa1 ++ fa2 ++ fa3
def clsIs (K : PySem.W.Frag) (C : Addr) : Bool := He.eqO (PySem.W.findIn K (.ref C) "__class__") (some (some (.builtin "object.__class__"))) &&
  (He.eqO (PySem.W.specialIn K (.builtin "object.__class__") "__get__") (some (some (.builtin "getset_descriptor.__get__"))) &&
  (decide (PySem.W.takesIn K (.builtin "object.__class__") = some true) && decide (PySem.W.mroIn K C (.type "object") = some true)))
def excIs (K : PySem.W.Frag) (D : Addr) : Bool := He.eqO (PySem.W.findIn K (.ref D) "__getattribute__") (some (some (.builtin "BaseException.__getattribute__"))) &&
  (He.eqO (PySem.W.findIn K (.ref D) "__getattr__") (some none) && PySem.W.hasDictIn K D)
def kitIs (K : PySem.W.Frag) (C D : Addr) (b : Bool) : Bool := decide (PySem.W.kitOne K (.ref C) (.ref D) = some b)
def fx (K : PySem.W.Frag) : Bool := clsIs K (He.ga K "Calls") && (clsIs K (He.ga K "TooMany") && (excIs K (He.ga K "TooMany") &&
  (kitIs K (He.ga K "TooMany") (He.ga K "TooMany") true && (kitIs K (He.ga K "TooMany") (He.ga K "NoPaper") false && (kitIs K (He.ga K "Calls") (He.ga K "Calls") true && kitIs K (He.ga K "Calls") (He.ga K "Paper") true)))))
def obsX (K : PySem.W.Frag) : Bool × He.AlD := (fx K, He.obsD fa fn K)
def valX : Bool × He.AlD := (true, He.valD fn)
def SaysX (K : PySem.W.Frag) : Prop := obsX K = valX
def obsXG (n : Nat) (g : Addr → Option Obj) : Bool × He.AlD := obsX (He.frG g (He.asD g n))
def hkX (n : Nat) : PySem.W.Hook where
  α := Bool × He.AlD
  obs := fun s => obsXG n s.heap.get?
  val := fun _ => valX
  says := fun _ h => ∃ K : PySem.W.Frag, K.In h ∧ SaysX K
  of := fun _ _ e => ⟨_, He.frG_in, e⟩
  keeps := fun _ _ _ ⟨K, hK, c⟩ k => ⟨K, PySem.W.Frag.In.keeps hK k, c⟩
theorem obsXG_eq {n : Nat} {g : Addr → Option Obj} {s : Shared} (h : ∀ a, g a = s.heap.get? a) : obsXG n g = (hkX n).obs s := by
  have e : g = s.heap.get? := funext h
  rw [e] <;> rfl
abbrev R : PySem.W.OpenRow := PySem.W.OpenLaw.row PySem.Challenge.rw_endwise_k53_whole_calls_found
abbrev hk : PySem.W.Hook := hkX 5
def ob (s : PySem.W.SharedT) : Bool × He.AlD := obsXG 5 (HandSHeadRun.getT s)
theorem ob_eq (s : PySem.W.SharedT) : ob s = hk.obs s.abs := obsXG_eq (HandSHeadRun.getT_eq s)
def loose0 : List PySem.Str := ["_wall", "EndError", "NoRule", "NoPaper", "TooMany", "all_fall", "Paper", "LETTERS", "LONGEST_NAME", "MOST_BLANK", "MOST_PLACES", "MOST_LEVELS", "MOST_PARTS", "is_whole", "is_name", "is_head", "parts_within", "is_term", "head", "parts_from"]
def loose1 : List PySem.Str := ["parts_of", "blanks", "MOST_CHOSEN", "MOST_CHOICES", "made_heads", "sides_of_calls", "led_from", "leads", "is_part", "is_choice", "Calls", "choices_of", "calls_of", "MOST_RULES", "is_rule", "Rules", "_law_whole", "_law_spread", "_law_mixed", "_law_names"]
def loose2 : List PySem.Str := ["_law_place", "_law_call", "_law_rule", "_law_head", "_law_heads", "_law_ringed", "_law_choices", "_law_right", "_law_answer", "_law_down", "_law_many"]
def loose : List PySem.Str := loose0 ++ loose1 ++ loose2
theorem run (w : World) : HandSHeadRun.RunEq R (PySem.W.view R.prog [57]) hk ob 4000 loose w := by
  intro os
  kernel_rfl
end K53

set_option Elab.async false
set_option linter.all false
set_option maxRecDepth 100000
set_option maxHeartbeats 4000000
namespace DL
open PySem PySem.Spec PyProof.Rows L2
/-! ### data that only grows -/
mutual
inductive Dq (H : Hp) : V → PyData → Prop
  | non : Dq H .non .none
  | bl (b : Bool) : Dq H (.bl b) (.bool b)
  | int (i : Int) : Dq H (.int i) (.int i)
  | str (x : Str) : Dq H (.str x) (.str x)
  | lst {a : Addr} {xs : List V} {ds : List PyData} : H a = some (.lst xs) → DqAll H xs ds → Dq H (.ref a) (.list ds)
  | tup {a : Addr} {xs : List V} {ds : List PyData} : H a = some (.tup xs) → DqAll H xs ds → Dq H (.ref a) (.tuple ds)
inductive DqAll (H : Hp) : List V → List PyData → Prop
  | nil : DqAll H [] []
  | cons {v : V} {vs : List V} {d : PyData} {ds : List PyData} : Dq H v d → DqAll H vs ds → DqAll H (v :: vs) (d :: ds)
end
mutual
theorem Dq.dp {K : PySem.W.Frag} {H : Hp} : ∀ (d : PyData) (v : V), Dq H v d → Dp K H v d
  | .none, _, h => by cases h; exact .non
  | .bool _, _, h => by cases h; exact .bl _
  | .int _, _, h => by cases h; exact .int _
  | .str _, _, h => by cases h; exact .str _
  | .list ds, _, h => by
    cases h with
    | lst hs ha => exact .lst (SqL.of hs) (DqAll.dp ds _ ha)
  | .tuple ds, _, h => by
    cases h with
    | tup hs ha => exact .tup (SqT.of hs) (DqAll.dp ds _ ha)
  | .dict _, _, h => by cases h
theorem DqAll.dp {K : PySem.W.Frag} {H : Hp} : ∀ (ds : List PyData) (vs : List V), DqAll H vs ds → DpAll K H vs ds
  | [], _, h => by cases h; exact .nil
  | d :: ds, _, h => by
    cases h with
    | cons h1 h2 => exact .cons (Dq.dp d _ h1) (DqAll.dp ds _ h2)
end
mutual
theorem dq_mono {H H' : Hp} (e : Same H H') : ∀ (d : PyData) (v : V), Dq H v d → Dq H' v d
  | .none, _, h => by cases h; exact .non
  | .bool _, _, h => by cases h; exact .bl _
  | .int _, _, h => by cases h; exact .int _
  | .str _, _, h => by cases h; exact .str _
  | .list ds, _, h => by
    cases h with
    | lst hs ha => exact .lst (e _ _ hs) (dqs_mono e ds _ ha)
  | .tuple ds, _, h => by
    cases h with
    | tup hs ha => exact .tup (e _ _ hs) (dqs_mono e ds _ ha)
  | .dict _, _, h => by cases h
theorem dqs_mono {H H' : Hp} (e : Same H H') : ∀ (ds : List PyData) (vs : List V), DqAll H vs ds → DqAll H' vs ds
  | [], _, h => by cases h; exact .nil
  | d :: ds, _, h => by
    cases h with
    | cons h1 h2 => exact .cons (dq_mono e d _ h1) (dqs_mono e ds _ h2)
end
theorem DqAll.length {H : Hp} : ∀ {vs : List V} {ds : List PyData}, DqAll H vs ds → vs.length = ds.length
  | _, [], h => by cases h; rfl
  | _, d :: ds, h => by
    cases h with
    | cons h1 h2 => exact congrArg Nat.succ (DqAll.length h2)
theorem DqAll.append {H : Hp} : ∀ {vs : List V} {ds : List PyData} {ws : List V} {es : List PyData}, DqAll H vs ds → DqAll H ws es → DqAll H (vs ++ ws) (ds ++ es)
  | _, [], _, _, h, g => by cases h; exact g
  | _, d :: ds, _, _, h, g => by
    cases h with
    | cons h1 h2 => exact .cons h1 (DqAll.append h2 g)
theorem DqAll.at_ {H : Hp} : ∀ {vs : List V} {ds : List PyData} {i : Nat} {d : PyData}, DqAll H vs ds → ds[i]? = some d → ∃ v, vs[i]? = some v ∧ Dq H v d
  | _, [], _, _, h, g => by simp at g
  | _, d :: ds, 0, _, h, g => by
    cases h with
    | cons h1 h2 =>
      have e : d = _ := Option.some.inj g
      subst e
      exact ⟨_, rfl, h1⟩
  | _, d :: ds, i + 1, _, h, g => by
    cases h with
    | cons h1 h2 => exact DqAll.at_ h2 (i := i) g
theorem DqAll.take {H : Hp} : ∀ {vs : List V} {ds : List PyData} (n : Nat), DqAll H vs ds → DqAll H (vs.take n) (ds.take n)
  | _, _, 0, _ => by rw [List.take_zero, List.take_zero]; exact .nil
  | _, [], n + 1, h => by cases h; exact .nil
  | _, d :: ds, n + 1, h => by
    cases h with
    | cons h1 h2 => exact .cons h1 (DqAll.take n h2)
theorem DqAll.drop {H : Hp} : ∀ {vs : List V} {ds : List PyData} (n : Nat), DqAll H vs ds → DqAll H (vs.drop n) (ds.drop n)
  | _, _, 0, h => h
  | _, [], n + 1, h => by cases h; exact .nil
  | _, d :: ds, n + 1, h => by
    cases h with
    | cons h1 h2 => exact DqAll.drop n h2
theorem DqAll.set {H : Hp} {v : V} {d : PyData} (hv : Dq H v d) : ∀ {vs : List V} {ds : List PyData} (i : Nat), DqAll H vs ds → DqAll H (vs.set i v) (ds.set i d)
  | _, [], _, h => by cases h; exact .nil
  | _, _ :: ds, 0, h => by
    cases h with
    | cons h1 h2 => exact .cons hv h2
  | _, _ :: ds, i + 1, h => by
    cases h with
    | cons h1 h2 => exact .cons h1 (DqAll.set hv i h2)
theorem DqAll.dropLast {H : Hp} {vs : List V} {ds : List PyData} (h : DqAll H vs ds) : DqAll H vs.dropLast ds.dropLast := by
  rw [List.dropLast_eq_take, List.dropLast_eq_take, h.length]
  exact h.take _
theorem dq_list {H : Hp} {v : V} {ds : List PyData} (h : Dq H v (.list ds)) : ∃ a xs, v = .ref a ∧ H a = some (.lst xs) ∧ DqAll H xs ds := by
  cases h with
  | lst hs ha => exact ⟨_, _, rfl, hs, ha⟩
theorem dq_tup {H : Hp} {v : V} {ds : List PyData} (h : Dq H v (.tuple ds)) : ∃ a xs, v = .ref a ∧ H a = some (.tup xs) ∧ DqAll H xs ds := by
  cases h with
  | tup hs ha => exact ⟨_, _, rfl, hs, ha⟩
theorem dq_int {H : Hp} {v : V} {i : Int} (h : Dq H v (.int i)) : v = .int i := by cases h; rfl
theorem dq_str {H : Hp} {v : V} {x : Str} (h : Dq H v (.str x)) : v = .str x := by cases h; rfl
theorem dq_bool {H : Hp} {v : V} {b : Bool} (h : Dq H v (.bool b)) : v = .bl b := by cases h; rfl
theorem dq_none {H : Hp} {v : V} (h : Dq H v .none) : v = .non := by cases h; rfl

/-! ### kinds of values, of own objects, environments -/
structure Ty where
  p : Hp → V → Prop
  mono : ∀ {H H' : Hp} {v : V}, Same H H' → p H v → p H' v
/-- a tuple: never changes -/
def IsT (u : HO) : Prop := ∃ xs, u = .tup xs
structure Ow where
  p : Hp → Addr → HO → Prop
  mono : ∀ {H H' : Hp} {a : Addr} {u : HO}, Same H H' → p H a u → p H' a u
  nt : ∀ {H : Hp} {a : Addr} {u : HO}, p H a u → ¬ IsT u
inductive Sl where
  | un
  | va (T : Ty)
  | ow (O : Ow)
def D (d : PyData) : Ty := ⟨fun H v => Dq H v d, fun e h => dq_mono e _ _ h⟩
def Ex (P : PyData → Prop) : Ty := ⟨fun H v => ∃ d, P d ∧ Dq H v d, fun e ⟨d, h, g⟩ => ⟨d, h, dq_mono e _ _ g⟩⟩
def OwnL (ds : List PyData) : Ow := ⟨fun H _ u => ∃ xs, u = .lst xs ∧ DqAll H xs ds, fun e ⟨xs, h, g⟩ => ⟨xs, h, dqs_mono e _ _ g⟩, fun ⟨xs, h, _⟩ ⟨ys, z⟩ => by rw [h] at z; cases z⟩
abbrev Tys (H : Hp) : List Ty → List V → Prop := Paired fun (T : Ty) (v : V) => T.p H v
theorem Tys.mono {H H' : Hp} (e : Same H H') : ∀ {Ts : List Ty} {vs : List V}, Tys H Ts vs → Tys H' Ts vs
  | _, _, .nil => .nil
  | _, _, .cons h t => .cons (Ty.mono _ e h) (Tys.mono e t)
theorem Tys.at_ {H : Hp} : ∀ {Ts : List Ty} {vs : List V} {i : Nat} {T : Ty}, Tys H Ts vs → Ts[i]? = some T → ∃ v, vs[i]? = some v ∧ T.p H v
  | _, _, _, _, .nil, g => by simp at g
  | _, _, 0, _, .cons h t, g => by
    have e := Option.some.inj g
    subst e
    exact ⟨_, rfl, h⟩
  | _, _, i + 1, _, .cons h t, g => Tys.at_ (i := i) t g
theorem tys_of {H : Hp} : ∀ {ds : List PyData} {vs : List V}, DqAll H vs ds → Tys H (ds.map D) vs
  | [], _, h => by cases h; exact .nil
  | d :: ds, _, h => by
    cases h with
    | cons h1 h2 => exact .cons h1 (tys_of h2)
theorem of_tys {H : Hp} : ∀ {ds : List PyData} {vs : List V}, Tys H (ds.map D) vs → DqAll H vs ds
  | [], _, h => by cases h; exact .nil
  | d :: ds, _, h => by
    cases h with
    | cons h1 h2 => exact .cons h1 (of_tys h2)

end DL
namespace L2
open PySem PySem.Spec PyProof.Rows
theorem Same.newU {H H' : Hp} {p : Addr} {o : HO} (e : Same H H') (h : H p = none) : Same H (upd H' p o) := fun a u ha => by
  rw [upd_ne (ne_of_none ha h)]
  exact e a u ha
theorem Same.upd2 {H H' : Hp} {p : Addr} {o : HO} (e : Same H H') : Same (upd H p o) (upd H' p o) := fun a u ha => by
  by_cases h : a = p
  · subst h
    rw [upd_same] at ha ⊢
    exact ha
  · rw [upd_ne h] at ha ⊢
    exact e a u ha
end L2
namespace DL
open PySem PySem.Spec PyProof.Rows L2
/-- behind an expression: what is stable grows, the rest stands -/
structure Ext (Hs H Hs' H' : Hp) : Prop where
  a : Same Hs Hs'
  b : Same Hs' H'
  c : ∀ p u, H p = some u → Hs p = none → H' p = some u ∧ (Hs' p = none ∨ IsT u)
theorem Ext.refl {Hs H : Hp} (h : Same Hs H) : Ext Hs H Hs H := ⟨Same.refl _, h, fun _ _ h g => ⟨h, .inl g⟩⟩
theorem Ext.cn {Hs H Hs' H' : Hp} {p : Addr} {u : HO} (x : Ext Hs H Hs' H') (h : H p = some u) (n : Hs p = none) (t : ¬ IsT u) : H' p = some u ∧ Hs' p = none := ⟨(x.c p u h n).1, (x.c p u h n).2.resolve_right t⟩
theorem Ext.cl {Hs H Hs' H' : Hp} (x : Ext Hs H Hs' H') (p : Addr) (u : HO) {xs : List V} (h : H p = some (.lst xs)) (n : Hs p = none) (e : u = .lst xs := by rfl) : H' p = some (.lst xs) ∧ Hs' p = none := x.cn h n fun ⟨_, z⟩ => nomatch z
theorem Ext.trans {Hs H Hs1 H1 Hs2 H2 : Hp} (x : Ext Hs H Hs1 H1) (y : Ext Hs1 H1 Hs2 H2) : Ext Hs H Hs2 H2 :=
  ⟨x.a.trans y.a, y.b, fun p u h g => by
    obtain ⟨h1, g1⟩ := x.c p u h g
    cases q : Hs1 p with
    | none => exact y.c p u h1 q
    | some o =>
      have e := x.b p o q
      rw [h1] at e
      cases e
      refine ⟨y.b p _ (y.a p _ q), .inr ?_⟩
      rcases g1 with g1 | g1
      · rw [g1] at q
        cases q
      · exact g1⟩
theorem Ext.same {Hs H Hs' H' : Hp} (x : Ext Hs H Hs' H') (h : Same Hs H) : Same H H' := fun p u e => by
  cases q : Hs p with
  | none => exact (x.c p u e q).1
  | some o =>
    have e1 := h p o q
    rw [e] at e1
    rw [e1]
    exact x.b p o (x.a p o q)
/-- a new object, stable from now on -/
theorem Ext.new {Hs H : Hp} {p : Addr} {o : HO} (h : Same Hs H) (hp : H p = none) : Ext Hs H (upd Hs p o) (upd H p o) :=
  ⟨(Same.refl _).newU (h.free hp), h.upd2, fun q u e g => by
    have n : q ≠ p := ne_of_none e hp
    rw [upd_ne n, upd_ne n]
    exact ⟨e, .inl g⟩⟩
/-- a new object, not stable -/
theorem Ext.newO {Hs H : Hp} {p : Addr} {o : HO} (h : Same Hs H) (hp : H p = none) : Ext Hs H Hs (upd H p o) :=
  ⟨Same.refl _, h.newU (h.free hp), fun q u e g => by
    rw [upd_ne (ne_of_none e hp)]
    exact ⟨e, .inl g⟩⟩
theorem Ext.free {Hs H Hs' H' : Hp} (x : Ext Hs H Hs' H') (h : Same Hs H) {p : Addr} (hp : H' p = none) : H p = none := (x.same h).free hp
/-- what was not stable but stood may be made stable behind -/
theorem Ext.fix {Hs H Hs' H' : Hp} {p : Addr} {u : HO} (x : Ext Hs H Hs' H') (hp : H p = none) (hn : Hs' p = none) (hu : H' p = some u) : Ext Hs H (upd Hs' p u) H' :=
  ⟨x.a.trans ((Same.refl _).newU hn), fun q o e => by
    by_cases h : q = p
    · subst h
      rw [upd_same] at e
      rw [← e]
      exact hu
    · rw [upd_ne h] at e
      exact x.b q o e, fun q o e g => by
    have n : q ≠ p := ne_of_none e hp
    rw [upd_ne n]
    exact x.c q o e g⟩

/-- the environment: ρ by slots; F: what must stand though it is not stable; Hs: what is stable -/
structure ER (ρ : List Sl) (F Hs H : Hp) (σ : L2.St) : Prop where
  s : Same Hs H
  f : ∀ p u, F p = some u → (Hs p = none ∨ IsT u) ∧ H p = some u
  n : σ.length = ρ.length
  v : ∀ (i : Nat) (T : Ty), ρ[i]? = some (.va T) → ∃ v, σ[i]? = some (some v) ∧ T.p Hs v
  o : ∀ (i : Nat) (O : Ow), ρ[i]? = some (.ow O) → ∃ p u, σ[i]? = some (some (.ref p)) ∧ Hs p = none ∧ F p = none ∧ H p = some u ∧ O.p Hs p u
  d : ∀ (i j : Nat) (O O' : Ow) (p : Addr), ρ[i]? = some (.ow O) → ρ[j]? = some (.ow O') → σ[i]? = some (some (.ref p)) → σ[j]? = some (some (.ref p)) → i = j
section
variable {ρ : List Sl} {F Hs H Hs' H' : Hp} {σ : L2.St}
theorem frame_ext {p : Addr} {u : HO} (x : Ext Hs H Hs' H') (s : Same Hs H) (h : (Hs p = none ∨ IsT u) ∧ H p = some u) : (Hs' p = none ∨ IsT u) ∧ H' p = some u := by
  obtain ⟨a, b⟩ := h
  rcases a with a | a
  · exact (x.c p u b a).symm
  · exact ⟨.inr a, x.same s p u b⟩
theorem ER.ext (E : ER ρ F Hs H σ) (x : Ext Hs H Hs' H') : ER ρ F Hs' H' σ :=
  ⟨x.b, fun p u h => frame_ext x E.s (E.f p u h), E.n, fun i T h => let ⟨v, a, b⟩ := E.v i T h; ⟨v, a, T.mono x.a b⟩,
    fun i O h => let ⟨p, u, a, b, f, c, d⟩ := E.o i O h; let ⟨c', b'⟩ := x.c p u c b; ⟨p, u, a, b'.resolve_right (O.nt d), f, c', O.mono x.a d⟩, E.d⟩
theorem ER.lt (E : ER ρ F Hs H σ) {i : Nat} {s : Sl} (h : ρ[i]? = some s) : i < σ.length := by
  have := (List.getElem?_eq_some_iff.mp h).1
  rw [E.n]
  exact this
theorem ER.set (E : ER ρ F Hs H σ) (i : Nat) {T : Ty} {v : V} (h : T.p Hs v) : ER (ρ.set i (.va T)) F Hs H (σ.set i (some v)) := by
  have key : ∀ (j : Nat) (O : Ow), (ρ.set i (.va T))[j]? = some (.ow O) → ρ[j]? = some (.ow O) ∧ (σ.set i (some v))[j]? = σ[j]? := fun j O hj => by
    by_cases e : i = j
    · subst e
      rw [List.getElem?_set] at hj
      rw [if_pos rfl] at hj
      split at hj <;> cases hj
    · rw [List.getElem?_set_ne e] at hj
      exact ⟨hj, List.getElem?_set_ne e⟩
  refine ⟨E.s, E.f, by rw [List.length_set, List.length_set]; exact E.n, fun j T' hj => ?_, fun j O hj => ?_, fun j k O O' p hj hk h1 h2 => ?_⟩
  · by_cases e : i = j
    · subst e
      have hl : i < ρ.length := by
        have := (List.getElem?_eq_some_iff.mp hj).1
        rw [List.length_set] at this
        exact this
      rw [List.getElem?_set_self hl] at hj
      have e2 : Sl.va T = Sl.va T' := Option.some.inj hj
      injection e2 with e2
      subst e2
      exact ⟨v, List.getElem?_set_self (by rw [E.n]; exact hl), h⟩
    · rw [List.getElem?_set_ne e] at hj
      obtain ⟨w, a, b⟩ := E.v j T' hj
      exact ⟨w, by rw [List.getElem?_set_ne e]; exact a, b⟩
  · obtain ⟨a, b⟩ := key j O hj
    obtain ⟨p, u, c, r⟩ := E.o j O a
    exact ⟨p, u, by rw [b]; exact c, r⟩
  · obtain ⟨a, b⟩ := key j O hj
    obtain ⟨a', b'⟩ := key k O' hk
    rw [b] at h1
    rw [b'] at h2
    exact E.d j k O O' p a a' h1 h2
/-- an own object into slot i; no other slot owns it -/
theorem ER.setO (E : ER ρ F Hs H σ) (i : Nat) {O : Ow} {p : Addr} {u : HO} (hs : Hs p = none) (hf : F p = none) (hu : H p = some u) (ho : O.p Hs p u) (hn : ∀ (j : Nat) (O' : Ow), j ≠ i → ρ[j]? = some (.ow O') → σ[j]? ≠ some (some (.ref p))) :
    ER (ρ.set i (.ow O)) F Hs H (σ.set i (some (.ref p))) := by
  have at_ : ∀ (j : Nat) (x : Sl), (ρ.set i (.ow O))[j]? = some x → j = i ∧ x = .ow O ∧ (σ.set i (some (.ref p)))[j]? = some (some (.ref p)) ∨ j ≠ i ∧ ρ[j]? = some x ∧ (σ.set i (some (.ref p)))[j]? = σ[j]? := fun j x hj => by
    by_cases e : i = j
    · subst e
      have hl : i < ρ.length := by
        have := (List.getElem?_eq_some_iff.mp hj).1
        rw [List.length_set] at this
        exact this
      rw [List.getElem?_set_self hl] at hj
      exact .inl ⟨rfl, (Option.some.inj hj).symm, List.getElem?_set_self (by rw [E.n]; exact hl)⟩
    · rw [List.getElem?_set_ne e] at hj
      exact .inr ⟨Ne.symm e, hj, List.getElem?_set_ne e⟩
  refine ⟨E.s, E.f, by rw [List.length_set, List.length_set]; exact E.n, fun j T' hj => ?_, fun j O' hj => ?_, fun j k O' O'' q hj hk h1 h2 => ?_⟩
  · rcases at_ j _ hj with ⟨_, e, _⟩ | ⟨_, a, b⟩
    · cases e
    · rw [b]
      exact E.v j T' a
  · rcases at_ j _ hj with ⟨_, e, c⟩ | ⟨_, a, b⟩
    · injection e with e
      subst e
      exact ⟨p, u, c, hs, hf, hu, ho⟩
    · rw [b]
      exact E.o j O' a
  · rcases at_ j _ hj with ⟨e1, _, c1⟩ | ⟨n1, a1, b1⟩
    · rcases at_ k _ hk with ⟨e2, _, c2⟩ | ⟨n2, a2, b2⟩
      · rw [e1, e2]
      · rw [c1] at h1
        rw [b2] at h2
        have e : p = q := by
          injection h1 with h1
          injection h1 with h1
          injection h1
        subst e
        exact absurd h2 (hn k O'' n2 a2)
    · rcases at_ k _ hk with ⟨e2, _, c2⟩ | ⟨n2, a2, b2⟩
      · rw [c2] at h2
        rw [b1] at h1
        have e : p = q := by
          injection h2 with h2
          injection h2 with h2
          injection h2
        subst e
        exact absurd h1 (hn j O' n1 a1)
      · rw [b1] at h1
        rw [b2] at h2
        exact E.d j k O' O'' q a1 a2 h1 h2
/-- an own object in slot i is changed -/
theorem ER.mut (E : ER ρ F Hs H σ) {i : Nat} {O O' : Ow} {p : Addr} {u' : HO} (hi : ρ[i]? = some (.ow O)) (hp : σ[i]? = some (some (.ref p))) (ho : O'.p Hs p u') : ER (ρ.set i (.ow O')) F Hs (upd H p u') σ := by
  obtain ⟨p', u, h1, h2, h3, h4, h5⟩ := E.o i O hi
  have e : p' = p := by
    rw [hp] at h1
    injection h1 with h1
    injection h1 with h1
    injection h1 with h1
    exact h1.symm
  subst e
  have ns : ∀ q o, Hs q = some o → q ≠ p' := fun q o e z => by
    rw [z, h2] at e
    cases e
  have at_ : ∀ (j : Nat) (x : Sl), (ρ.set i (.ow O'))[j]? = some x → j = i ∧ x = .ow O' ∨ j ≠ i ∧ ρ[j]? = some x := fun j x hj => by
    by_cases e : i = j
    · subst e
      rw [List.getElem?_set_self (by rw [← E.n]; exact E.lt hi)] at hj
      exact .inl ⟨rfl, (Option.some.inj hj).symm⟩
    · rw [List.getElem?_set_ne e] at hj
      exact .inr ⟨Ne.symm e, hj⟩
  refine ⟨fun q o e => by rw [upd_ne (ns q o e)]; exact E.s q o e, fun q o e => ?_, by rw [List.length_set]; exact E.n, fun j T' hj => ?_, fun j O'' hj => ?_, fun j k A B q hj hk e1 e2 => ?_⟩
  · obtain ⟨a, b⟩ := E.f q o e
    refine ⟨a, ?_⟩
    have n : q ≠ p' := fun z => by
      rw [z, h3] at e
      cases e
    rw [upd_ne n]
    exact b
  · rcases at_ j _ hj with ⟨_, e⟩ | ⟨_, a⟩
    · cases e
    · exact E.v j T' a
  · rcases at_ j _ hj with ⟨e, e2⟩ | ⟨n, a⟩
    · injection e2 with e2
      subst e2 e
      exact ⟨p', u', hp, h2, h3, upd_same, ho⟩
    · obtain ⟨q, o, b1, b2, b3, b4, b5⟩ := E.o j O'' a
      refine ⟨q, o, b1, b2, b3, ?_, b5⟩
      have nq : q ≠ p' := fun z => n (E.d j i O'' O q a hi b1 (by rw [z]; exact hp))
      rw [upd_ne nq]
      exact b4
  · have a1 : ∃ A', ρ[j]? = some (.ow A') := by
      rcases at_ j _ hj with ⟨e, _⟩ | ⟨_, a⟩
      · exact ⟨O, by rw [e]; exact hi⟩
      · exact ⟨_, a⟩
    have a2 : ∃ A', ρ[k]? = some (.ow A') := by
      rcases at_ k _ hk with ⟨e, _⟩ | ⟨_, a⟩
      · exact ⟨O, by rw [e]; exact hi⟩
      · exact ⟨_, a⟩
    obtain ⟨_, a1⟩ := a1
    obtain ⟨_, a2⟩ := a2
    exact E.d j k _ _ q a1 a2 e1 e2
/-- an own object becomes stable -/
theorem ER.freeze (E : ER ρ F Hs H σ) {i : Nat} {O : Ow} {T : Ty} (hi : ρ[i]? = some (.ow O)) (hT : ∀ Hs p u, Hs p = none → O.p Hs p u → T.p (upd Hs p u) (.ref p)) :
    ∃ Hs', Same Hs Hs' ∧ ER (ρ.set i (.va T)) F Hs' H σ := by
  obtain ⟨p, u, h1, h2, h3, h4, h5⟩ := E.o i O hi
  have sm : Same Hs (upd Hs p u) := (Same.refl _).newU h2
  have at_ : ∀ (j : Nat) (x : Sl), (ρ.set i (.va T))[j]? = some x → j = i ∧ x = .va T ∨ j ≠ i ∧ ρ[j]? = some x := fun j x hj => by
    by_cases e : i = j
    · subst e
      rw [List.getElem?_set_self (by rw [← E.n]; exact E.lt hi)] at hj
      exact .inl ⟨rfl, (Option.some.inj hj).symm⟩
    · rw [List.getElem?_set_ne e] at hj
      exact .inr ⟨Ne.symm e, hj⟩
  have own : ∀ (j : Nat) (O' : Ow), (ρ.set i (.va T))[j]? = some (.ow O') → j ≠ i ∧ ρ[j]? = some (.ow O') := fun j O' hj => by
    rcases at_ j _ hj with ⟨_, e⟩ | a
    · cases e
    · exact a
  refine ⟨upd Hs p u, sm, fun q o e => ?_, fun q o e => ?_, by rw [List.length_set]; exact E.n, fun j T' hj => ?_, fun j O' hj => ?_, fun j k A B q hj hk e1 e2 => E.d j k A B q (own j A hj).2 (own k B hk).2 e1 e2⟩
  · by_cases z : q = p
    · subst z
      rw [upd_same] at e
      rw [← e]
      exact h4
    · rw [upd_ne z] at e
      exact E.s q o e
  · obtain ⟨a, b⟩ := E.f q o e
    have n : q ≠ p := fun z => by
      rw [z, h3] at e
      cases e
    exact ⟨by rw [upd_ne n]; exact a, b⟩
  · rcases at_ j _ hj with ⟨e, e2⟩ | ⟨_, a⟩
    · injection e2 with e2
      subst e2 e
      exact ⟨.ref p, h1, hT Hs p u h2 h5⟩
    · obtain ⟨v, b1, b2⟩ := E.v j T' a
      exact ⟨v, b1, T'.mono sm b2⟩
  · obtain ⟨n, a⟩ := own j O' hj
    obtain ⟨q, o, b1, b2, b3, b4, b5⟩ := E.o j O' a
    have nq : q ≠ p := fun z => n (E.d j i O' O q a hi b1 (by rw [z]; exact h1))
    exact ⟨q, o, b1, by rw [upd_ne nq]; exact b2, b3, b4, O'.mono sm b5⟩
end
theorem ownL_fix {ds : List PyData} (Hs : Hp) (p : Addr) (u : HO) (hp : Hs p = none) (h : (OwnL ds).p Hs p u) : (D (.list ds)).p (upd Hs p u) (.ref p) := by
  obtain ⟨xs, rfl, h⟩ := h
  exact .lst upd_same (dqs_mono ((Same.refl _).newU hp) _ _ h)
/-- all tuples that stand are stable -/
def proT (Hs H : Hp) : Hp := fun a => match Hs a with
  | some o => some o
  | none => match H a with
    | some (.tup xs) => some (.tup xs)
    | _ => none
theorem proT_s {Hs H : Hp} : Same Hs (proT Hs H) := fun a o h => by
  unfold proT
  rw [h]
theorem proT_h {Hs H : Hp} (s : Same Hs H) : Same (proT Hs H) H := fun a o h => by
  unfold proT at h
  split at h
  · rename_i o' e
    cases h
    exact s _ _ e
  · split at h
    · rename_i xs e
      cases h
      exact e
    · cases h
theorem proT_tup {Hs H : Hp} (s : Same Hs H) {a : Addr} {xs : List V} (h : H a = some (.tup xs)) : proT Hs H a = some (.tup xs) := by
  unfold proT
  split
  · rename_i o e
    rw [← s _ _ e, h]
  · rw [h]
theorem proT_none {Hs H : Hp} (s : Same Hs H) {a : Addr} (h : H a = none) : proT Hs H a = none := by
  unfold proT
  rw [s.free h, h]
theorem Ext.promo {Hs H : Hp} (s : Same Hs H) : Ext Hs H (proT Hs H) H := ⟨proT_s, proT_h s, fun p u e g => ⟨e, by
  unfold proT
  rw [g]
  cases u with
  | tup xs => exact .inr ⟨xs, rfl⟩
  | _ => rw [e]; exact .inl rfl⟩⟩
/-! data without lists -/
mutual
def noList : PyData → Bool
  | .list _ => false
  | .dict _ => false
  | .tuple xs => noLists xs
  | _ => true
def noLists : List PyData → Bool
  | [] => true
  | x :: r => noList x && noLists r
end
mutual
theorem dq_promo {Hs H : Hp} (s : Same Hs H) : ∀ (d : PyData) (v : V), noList d = true → Dq H v d → Dq (proT Hs H) v d
  | .none, _, _, h => by cases h; exact .non
  | .bool _, _, _, h => by cases h; exact .bl _
  | .int _, _, _, h => by cases h; exact .int _
  | .str _, _, _, h => by cases h; exact .str _
  | .tuple xs, _, n, h => by
    cases h with
    | tup h1 h2 => exact .tup (proT_tup s h1) (dqs_promo s xs _ (by simpa [noList] using n) h2)
  | .list _, _, n, _ => by simp [noList] at n
  | .dict _, _, n, _ => by simp [noList] at n
theorem dqs_promo {Hs H : Hp} (s : Same Hs H) : ∀ (ds : List PyData) (vs : List V), noLists ds = true → DqAll H vs ds → DqAll (proT Hs H) vs ds
  | [], _, _, h => by cases h; exact .nil
  | d :: ds, _, n, h => by
    have n' : noList d = true ∧ noLists ds = true := by simpa [noLists] using n
    cases h with
    | cons h1 h2 => exact .cons (dq_promo s d _ n'.1 h1) (dqs_promo s ds _ n'.2 h2)
end
end DL

set_option Elab.async false
set_option linter.all false
set_option maxRecDepth 100000
set_option maxHeartbeats 4000000
namespace DL
open PySem PySem.Spec PyProof.Rows L2
/-! ### the widest readings -/
def RE (X : Cx) (e : Expr) : TE := fun σ H Q => ∀ (pins : List (Addr × Obj)) (s : Shared), Inv X pins σ H s → wpAny (model X.prog X.w) X.A (eval e X.env) (EP X pins σ Q) X.xe s
def RT (X : Cx) (e : Expr) : TT := fun σ H Q => ∀ (pins : List (Addr × Obj)) (s : Shared), Inv X pins σ H s → wpAny (model X.prog X.w) X.A (isTrue e X.env (eval e X.env)) (TP X pins σ Q) X.xe s
def RW (X : Cx) (e : Expr) : TT := fun σ H Q => ∀ (wh : Sem Value) (pins : List (Addr × Obj)) (s : Shared), Inv X pins σ H s → wpAny (model X.prog X.w) X.A (isTrue e X.env wh) (TP X pins σ Q) X.xe s
def RA (X : Cx) (es : List Expr) : TA := fun σ H Q => ∀ (pos : Pos) (pins : List (Addr × Obj)) (s : Shared), Inv X pins σ H s → wpAny (model X.prog X.w) X.A (spliced (backTo pos (starEach es X.env))) (AP X pins σ Q) X.xe s
theorem pe_RE {X : Cx} {e : Expr} : PE X e (RE X e) := ⟨fun pins s _ _ _ I h => h pins s I⟩
theorem pt_RT {X : Cx} {e : Expr} : PT X e (RT X e) := ⟨fun pins s _ _ _ I h => h pins s I⟩
theorem pw_RW {X : Cx} {e : Expr} : PW X e (RW X e) := ⟨fun wh pins s _ _ _ I h => h wh pins s I⟩
theorem pa_RA {X : Cx} {es : List Expr} : PA X es (RA X es) := ⟨fun pos pins s _ _ _ I h => h pos pins s I⟩
theorem RE.of {X : Cx} {e : Expr} {t : TE} (h : PE X e t) {σ : L2.St} {H : Hp} {Q : VK} (q : t σ H Q) : RE X e σ H Q := fun pins s I => h.run pins s σ H Q I q
theorem RT.of {X : Cx} {e : Expr} {t : TT} (h : PT X e t) {σ : L2.St} {H : Hp} {Q : Bool → Hp → Prop} (q : t σ H Q) : RT X e σ H Q := fun pins s I => h.run pins s σ H Q I q
theorem RW.of {X : Cx} {e : Expr} {t : TT} (h : PW X e t) {σ : L2.St} {H : Hp} {Q : Bool → Hp → Prop} (q : t σ H Q) : RW X e σ H Q := fun wh pins s I => h.run wh pins s σ H Q I q
theorem RA.of {X : Cx} {es : List Expr} {t : TA} (h : PA X es t) {σ : L2.St} {H : Hp} {Q : List V → Hp → Prop} (q : t σ H Q) : RA X es σ H Q := fun pos pins s I => h.run pos pins s σ H Q I q

/-! ### judgements -/
/-- e gives a T -/
def EE (X : Cx) (ρ : List Sl) (e : Expr) (T : Ty) : Prop := ∀ (F Hs H : Hp) (σ : L2.St) (Q : VK), ER ρ F Hs H σ → (∀ v Hs' H', Ext Hs H Hs' H' → T.p Hs' v → Q v H') → RE X e σ H Q
/-- e makes an own O -/
def EO (X : Cx) (ρ : List Sl) (e : Expr) (O : Ow) : Prop := ∀ (F Hs H : Hp) (σ : L2.St) (Q : VK), ER ρ F Hs H σ →
  (∀ p u Hs' H', Ext Hs H Hs' H' → H p = none → Hs' p = none → H' p = some u → O.p Hs' p u → Q (.ref p) H') → RE X e σ H Q
def ET (X : Cx) (ρ : List Sl) (e : Expr) (b : Bool) : Prop := ∀ (F Hs H : Hp) (σ : L2.St) (Q : Bool → Hp → Prop), ER ρ F Hs H σ → (∀ Hs' H', Ext Hs H Hs' H' → Q b H') → RT X e σ H Q
def EW (X : Cx) (ρ : List Sl) (e : Expr) (b : Bool) : Prop := ∀ (F Hs H : Hp) (σ : L2.St) (Q : Bool → Hp → Prop), ER ρ F Hs H σ → (∀ Hs' H', Ext Hs H Hs' H' → Q b H') → RW X e σ H Q
def EA (X : Cx) (ρ : List Sl) (es : List Expr) (Ts : List Ty) : Prop := ∀ (F Hs H : Hp) (σ : L2.St) (Q : List V → Hp → Prop), ER ρ F Hs H σ → (∀ vs Hs' H', Ext Hs H Hs' H' → Tys Hs' Ts vs → Q vs H') → RA X es σ H Q
def EAD (X : Cx) (ρ : List Sl) (es : List Expr) (ds : List PyData) : Prop := EA X ρ es (ds.map D)
section
variable {X : Cx} {ρ : List Sl} {e a b c : Expr} {es : List Expr} {T A B C : Ty} {Ts : List Ty} {O : Ow} {pos : Pos}
theorem EE.le {T' : Ty} (h : EE X ρ e T) (l : ∀ H v, T.p H v → T'.p H v) : EE X ρ e T' := fun F Hs H σ Q E q => h F Hs H σ Q E fun v Hs' H' x hv => q v Hs' H' x (l _ _ hv)
theorem EE.d {d d' : PyData} (h : EE X ρ e (D d)) (l : d = d') : EE X ρ e (D d') := l ▸ h
theorem EE.ty {T' : Ty} (h : EE X ρ e T) (l : T = T') : EE X ρ e T' := l ▸ h
theorem ET.to {k k' : Bool} (h : ET X ρ e k) (l : k = k') : ET X ρ e k' := l ▸ h
theorem EO.fix (h : EO X ρ e O) (l : ∀ Hs p u, Hs p = none → O.p Hs p u → T.p (upd Hs p u) (.ref p)) : EE X ρ e T := fun F Hs H σ Q E q =>
  h F Hs H σ Q E fun p u Hs' H' x h1 h2 h3 h4 => q _ _ _ (x.fix h1 h2 h3) (l _ _ _ h2 h4)
theorem EO.d {ds : List PyData} (h : EO X ρ e (OwnL ds)) : EE X ρ e (D (.list ds)) := h.fix ownL_fix
theorem EE.ex {P : PyData → Prop} {d : PyData} (h : EE X ρ e (D d)) (p : P d) : EE X ρ e (Ex P) := h.le fun _ _ hv => ⟨d, p, hv⟩
/-! names, constants -/
theorem ee_v (i : Nat) {x : Str} (hT : ρ[i]? = some (.va T)) (hN : X.N[i]? = some x := by rfl) (hv : Vis X.env.scope x := by first | exact Or.inl rfl | exact Or.inr (Or.inl rfl) | exact Or.inr (Or.inr rfl)) (hd : (x == ("__debug__" : Str)) = false := by decide)
    (hcd : (x == ("__classdict__" : Str)) = false := by decide) : EE X ρ (.Name x pos) T := fun F Hs H σ Q E q => by
  obtain ⟨v, h1, h2⟩ := E.v i T hT
  exact RE.of (pe_var hN hv hd hcd) ⟨v, h1, q v Hs H (Ext.refl E.s) h2⟩
def Cst (v : V) : Ty := ⟨fun _ w => w = v, fun _ h => h⟩
theorem ee_int {i : Int} {j} : EE X ρ (.Constant (.int i) j pos) (D (.int i)) := fun F Hs H σ Q E q => RE.of pe_int (q _ Hs H (Ext.refl E.s) (.int i))
theorem ee_bl {i : Bool} {j} : EE X ρ (.Constant (.bool i) j pos) (D (.bool i)) := fun F Hs H σ Q E q => RE.of pe_bl (q _ Hs H (Ext.refl E.s) (.bl i))
theorem ee_non {j} : EE X ρ (.Constant .none j pos) (D .none) := fun F Hs H σ Q E q => RE.of pe_non (q _ Hs H (Ext.refl E.s) .non)
theorem ee_str {x : Str} {j} : EE X ρ (.Constant (.str x) j pos) (D (.str x)) := fun F Hs H σ Q E q => RE.of pe_str (q _ Hs H (Ext.refl E.s) (.str x))
theorem ee_glob {x : Str} {v : V} {u : Value} (hm : X.mg x = some u) (r : RelV v u) (hT : ∀ H, T.p H v) (hg : Gl X x := by rfl) (hd : (x == ("__debug__" : Str)) = false := by decide) : EE X ρ (.Name x pos) T :=
  fun F Hs H σ Q E q => RE.of (pe_glob hg hm r hd) (q _ Hs H (Ext.refl E.s) (hT Hs))
theorem ee_globI {x : Str} {i : Int} (hm : ∃ t, X.mg x = some (.int i t)) (hg : Gl X x := by rfl) (hd : (x == ("__debug__" : Str)) = false := by decide) : EE X ρ (.Name x pos) (D (.int i)) := by
  obtain ⟨t, hm⟩ := hm
  exact ee_glob hm (v := .int i) ⟨t, rfl⟩ (fun H => .int i) hg hd
theorem ee_globS {x z : Str} (hm : ∃ t, X.mg x = some (.str z t)) (hg : Gl X x := by rfl) (hd : (x == ("__debug__" : Str)) = false := by decide) : EE X ρ (.Name x pos) (D (.str z)) := by
  obtain ⟨t, hm⟩ := hm
  exact ee_glob hm (v := .str z) ⟨t, rfl⟩ (fun H => .str z) hg hd
theorem ee_globC {x : Str} {f : Addr} (hm : X.mg x = some (.ref f)) (hg : Gl X x := by rfl) (hd : (x == ("__debug__" : Str)) = false := by decide) : EE X ρ (.Name x pos) (Cst (.ref f)) :=
  ee_glob hm (v := .ref f) rfl (fun H => rfl) hg hd
theorem ee_bty {x : Str} {n : String} (hm : X.mg x = none) (hv : bootBuiltins x = some (.type n)) (hg : Gl X x := by rfl) (hn : x ≠ "__name__" := by decide) (hd : (x == ("__debug__" : Str)) = false := by decide) : EE X ρ (.Name x pos) (Cst (.ty n)) :=
  fun F Hs H σ Q E q => RE.of (pe_bltn (v := .ty n) hg hm hv rfl hn hd) (q _ Hs H (Ext.refl E.s) rfl)
/-! argument lists, displays -/
theorem ea_nil : EA X ρ [] [] := fun F Hs H σ Q E q => RA.of pa_nil (q _ Hs H (Ext.refl E.s) .nil)
theorem ea_cons (ha : EE X ρ e T) (hr : EA X ρ es Ts) (hs : starEach (e :: es) X.env = (false, eval e X.env) :: starEach es X.env := by rfl) : EA X ρ (e :: es) (T :: Ts) := fun F Hs H σ Q E q => by
  refine RA.of (pa_cons pe_RE pa_RA hs) ?_
  refine ha F Hs H σ _ E fun x Hs1 H1 X1 hx => ?_
  exact hr F Hs1 H1 σ _ (E.ext X1) fun xs Hs2 H2 X2 hxs => q _ _ _ (X1.trans X2) (.cons (T.mono X2.a hx) hxs)
theorem ead_nil : EAD X ρ [] [] := ea_nil
theorem ead_cons {d : PyData} {ds : List PyData} (ha : EE X ρ e (D d)) (hr : EAD X ρ es ds) (hs : starEach (e :: es) X.env = (false, eval e X.env) :: starEach es X.env := by rfl) : EAD X ρ (e :: es) (d :: ds) := ea_cons (Ts := ds.map D) ha hr hs
theorem small_line {n : Nat} (h : Nat.ble n 100000 = true) : n ≤ sizeLine := Nat.le_trans (Nat.le_of_ble_eq_true h) (by decide)
theorem ee_tup {ds : List PyData} {k} (h : EAD X ρ es ds) (hl : Nat.ble ds.length 100000 = true := by rfl) : EE X ρ (.Tuple es k pos) (D (.tuple ds)) := fun F Hs H σ Q E q => by
  refine RE.of (pe_tup pa_RA) ?_
  refine h F Hs H σ _ E fun vs Hs1 H1 X1 hvs => ?_
  have hd := of_tys hvs
  refine ⟨by rw [hd.length]; exact small_line hl, fun p hp => q _ _ _ (X1.trans (Ext.new X1.b hp)) ?_⟩
  exact .tup upd_same (dqs_mono ((Same.refl _).newU (X1.b.free hp)) _ _ hd)
theorem eo_lst {ds : List PyData} (h : EAD X ρ es ds) (hl : Nat.ble ds.length 100000 = true := by rfl) : EO X ρ (.List es pos) (OwnL ds) := fun F Hs H σ Q E q => by
  refine RE.of (pe_lst pa_RA) ?_
  refine h F Hs H σ _ E fun vs Hs1 H1 X1 hvs => ?_
  have hd := of_tys hvs
  exact ⟨by rw [hd.length]; exact small_line hl, fun p hp => q p _ _ _ (X1.trans (Ext.newO X1.b hp)) (X1.free E.s hp) (X1.b.free hp) upd_same ⟨vs, rfl, hd⟩⟩
theorem ee_lst {ds : List PyData} (h : EAD X ρ es ds) (hl : Nat.ble ds.length 100000 = true := by rfl) : EE X ρ (.List es pos) (D (.list ds)) := (eo_lst h hl).d
/-- a list of things of any kinds -/
def LstT (Ts : List Ty) : Ty := ⟨fun H v => ∃ a xs, v = .ref a ∧ H a = some (.lst xs) ∧ Tys H Ts xs, fun e ⟨a, xs, h1, h2, h3⟩ => ⟨a, xs, h1, e _ _ h2, h3.mono e⟩⟩
theorem ee_lstT (h : EA X ρ es Ts) (hl : Nat.ble Ts.length 100000 = true := by rfl) : EE X ρ (.List es pos) (LstT Ts) := fun F Hs H σ Q E q => by
  refine RE.of (pe_lst pa_RA) ?_
  refine h F Hs H σ _ E fun vs Hs1 H1 X1 hvs => ?_
  refine ⟨by rw [← hvs.length]; exact small_line hl, fun p hp => q _ _ _ (X1.trans (Ext.new X1.b hp)) ⟨p, vs, rfl, upd_same, hvs.mono ((Same.refl _).newU (X1.b.free hp))⟩⟩
theorem LstT.of {ds : List PyData} {H : Hp} {v : V} (h : (D (.list ds)).p H v) : (LstT (ds.map D)).p H v := by
  obtain ⟨a, xs, h1, h2, h3⟩ := dq_list h
  exact ⟨a, xs, h1, h2, tys_of h3⟩
/-! operators -/
def R2V (r : R2) (A B T : Ty) : Prop := ∀ (Hs H : Hp) (x y : V) (Q : VK), Same Hs H → A.p Hs x → B.p Hs y → (∀ z Hs' H', Ext Hs H Hs' H' → T.p Hs' z → Q z H') → r x y H Q
theorem tOp_run {r : R2} (ha : EE X ρ a A) (hb : EE X ρ b B) (hr : R2V r A B T) {F Hs H : Hp} {σ : L2.St} {Q : VK} (E : ER ρ F Hs H σ) (q : ∀ v Hs' H', Ext Hs H Hs' H' → T.p Hs' v → Q v H') : tOp r (RE X a) (RE X b) σ H Q := by
  refine ha F Hs H σ _ E fun x Hs1 H1 X1 hx => ?_
  refine hb F Hs1 H1 σ _ (E.ext X1) fun y Hs2 H2 X2 hy => ?_
  exact hr Hs2 H2 x y Q X2.b (A.mono X2.a hx) hy fun z Hs' H' X3 hz => q z _ _ ((X1.trans X2).trans X3) hz
theorem ee_op {op : Operator} {r : R2} (ho : OpR X (binaryOp op) r) (ha : EE X ρ a A) (hb : EE X ρ b B) (hr : R2V r A B T) : EE X ρ (.BinOp a op b pos) T := fun F Hs H σ Q E q => RE.of (pe_op ho pe_RE pe_RE) (tOp_run ha hb hr E q)
theorem ee_cmp {op : CmpOp} {r : R2} (ho : OpR X (compareOp op) r) (hm : behindInMarks op b = false) (ha : EE X ρ a A) (hb : EE X ρ b B) (hr : R2V r A B T) : EE X ρ (.Compare a [op] [b] pos) T :=
  fun F Hs H σ Q E q => RE.of (pe_cmpR ho pe_RE pe_RE hm) (tOp_run ha hb hr E q)
theorem et_cmp {op : CmpOp} {r : R2} {k : Bool} (ho : OpR X (compareOp op) r) (hm : behindInMarks op b = false) (ha : EE X ρ a A) (hb : EE X ρ b B) (hr : R2V r A B (D (.bool k))) : ET X ρ (.Compare a [op] [b] pos) k := fun F Hs H σ Q E q =>
  RT.of (pt_cmpR ho pe_RE pe_RE hm) (tOp_run ha hb hr E fun v Hs' H' x hv => ⟨k, dq_bool hv, q _ _ x⟩)
theorem ee_ix {r : R2} (ho : IxR X r) (ha : EE X ρ a A) (hb : EE X ρ b B) (hr : R2V r A B T) (hs : PlainIx b := by exact fun _ _ => rfl) : EE X ρ (.Subscript a b pos) T := fun F Hs H σ Q E q => RE.of (pe_ix ho pe_RE pe_RE hs) (tOp_run ha hb hr E q)
/-- a op1 b op2 c -/
theorem ee_chain {op op' : CmpOp} {r r' : R2} {k k' : Bool} (ho : OpR X (compareOp op) r) (ho' : OpR X (compareOp op') r') (ha : EE X ρ a A) (hb : EE X ρ b B) (hc : EE X ρ c C) (h1 : R2V r A B (D (.bool k))) (h2 : k = true → R2V r' B C (D (.bool k')))
    (hm : lastMarks [op, op'] [b, c] = false := by with_unfolding_all rfl) : EE X ρ (.Compare a [op, op'] [b, c] pos) (D (.bool (k && k'))) := fun F Hs H σ Q E q => by
  refine RE.of (pe_chain ho ho' pe_RE pe_RE pe_RE hm) ?_
  refine ha F Hs H σ _ E fun x Hs1 H1 X1 hx => ?_
  refine hb F Hs1 H1 σ _ (E.ext X1) fun y Hs2 H2 X2 hy => ?_
  refine h1 Hs2 H2 x y _ X2.b (A.mono X2.a hx) hy fun z Hs3 H3 X3 hz => ?_
  refine ⟨k, dq_bool hz, ?_⟩
  cases k with
  | false => exact iteF (q _ _ _ ((X1.trans X2).trans X3) (.bl _))
  | true =>
    refine iteT ?_
    refine hc F Hs3 H3 σ _ (((E.ext X1).ext X2).ext X3) fun w Hs4 H4 X4 hw => ?_
    exact h2 rfl Hs4 H4 y w _ X4.b (B.mono (X3.a.trans X4.a) hy) hw fun z' Hs5 H5 X5 hz' => q _ _ _ ((((X1.trans X2).trans X3).trans X4).trans X5) hz'
variable {i j : Int}
theorem r2_int {g : Int → Int → Int} : R2V (rI0 fun i j => .int (g i j)) (D (.int i)) (D (.int j)) (D (.int (g i j))) := fun Hs H x y Q s hx hy q => ⟨i, j, dq_int hx, dq_int hy, q _ _ _ (Ext.refl s) (.int _)⟩
theorem r2_intC {C : Int → Int → Prop} {g : Int → Int → Int} (h : C i j) : R2V (rI C fun i j => .int (g i j)) (D (.int i)) (D (.int j)) (D (.int (g i j))) := fun Hs H x y Q s hx hy q => ⟨i, j, dq_int hx, dq_int hy, h, q _ _ _ (Ext.refl s) (.int _)⟩
theorem r2_bool {g : Int → Int → Bool} : R2V (rI0 fun i j => .bl (g i j)) (D (.int i)) (D (.int j)) (D (.bool (g i j))) := fun Hs H x y Q s hx hy q => ⟨i, j, dq_int hx, dq_int hy, q _ _ _ (Ext.refl s) (.bl _)⟩
theorem r2_eqI : R2V rEq (D (.int i)) (D (.int j)) (D (.bool (decide (i = j)))) := fun Hs H x y Q s hx hy q => by
  rw [dq_int hx, dq_int hy]
  refine ⟨rfl, q _ _ _ (Ext.refl s) ?_⟩
  rw [dec_int, Bool.beq_eq_decide_eq]
  exact .bl _
theorem r2_neI : R2V rNe (D (.int i)) (D (.int j)) (D (.bool (!decide (i = j)))) := fun Hs H x y Q s hx hy q => by
  rw [dq_int hx, dq_int hy]
  refine ⟨rfl, q _ _ _ (Ext.refl s) ?_⟩
  rw [dec_int, Bool.beq_eq_decide_eq]
  exact .bl _
variable {d d' : PyData} {ds ds' : List PyData} {K : PySem.W.Frag}
theorem r2_eqD (h : SeqAt.shaped d = true) (h' : SeqAt.shaped d' = true) : R2V (rEqD K) (D d) (D d') (D (.bool (PyData.eqv d d'))) := fun Hs H x y Q s hx hy q =>
  ⟨d, d', Dq.dp _ _ (dq_mono s _ _ hx), Dq.dp _ _ (dq_mono s _ _ hy), h, h', q _ _ _ (Ext.refl s) (.bl _)⟩
theorem r2_neD (h : SeqAt.shaped d = true) (h' : SeqAt.shaped d' = true) : R2V (rNeD K) (D d) (D d') (D (.bool (!PyData.eqv d d'))) := fun Hs H x y Q s hx hy q =>
  ⟨d, d', Dq.dp _ _ (dq_mono s _ _ hx), Dq.dp _ _ (dq_mono s _ _ hy), h, h', q _ _ _ (Ext.refl s) (.bl _)⟩
theorem r2_inD (h : SeqAt.shaped d = true) (h' : SeqAt.shaped (.list ds) = true) : R2V (rInD K) (D d) (D (.list ds)) (D (.bool (ds.any fun z => PyData.eqv z d))) := fun Hs H x y Q s hx hy q =>
  ⟨d, ds, Dq.dp _ _ (dq_mono s _ _ hx), Dq.dp _ _ (dq_mono s _ _ hy), h, h', q _ _ _ (Ext.refl s) (.bl _)⟩
theorem r2_inS {cp : Nat} {z : Str} : R2V (fun x y H Q => ∃ (c : Nat) (z : Str), x = .str ⟨#[c]⟩ ∧ y = .str z ∧ Q (.bl (decide (c ∈ z.cps.toList))) H) (D (.str ⟨#[cp]⟩)) (D (.str z)) (D (.bool (decide (cp ∈ z.cps.toList)))) := fun Hs H x y Q s hx hy q =>
  ⟨cp, z, dq_str hx, dq_str hy, q _ _ _ (Ext.refl s) (.bl _)⟩
theorem r2_catS {x y : Str} (h : x.length + y.length ≤ 100000) : R2V (fun x y H Q => ∃ i j, x = .str i ∧ y = .str j ∧ i.length + j.length ≤ sizeLine ∧ Q (.str (i ++ j)) H) (D (.str x)) (D (.str y)) (D (.str (x ++ y))) := fun Hs H a b Q s hx hy q =>
  ⟨x, y, dq_str hx, dq_str hy, Nat.le_trans h (by decide), q _ _ _ (Ext.refl s) (.str _)⟩
def isNoneD : PyData → Bool
  | .none => true
  | _ => false
theorem r2_isN {v : PyData} : R2V (fun x y H Q => y = .non ∧ Q (.bl (decide (x = .non))) H) (D v) (D .none) (D (.bool (isNoneD v))) := fun Hs H x y Q s hx hy q => by
  refine ⟨dq_none hy, ?_⟩
  cases hx <;> exact q _ _ _ (Ext.refl s) (.bl _)
theorem atI_dq {H : Hp} {xs : List V} (h : DqAll H xs ds) (ha : atI ds i = some d) : ∃ v, atI xs i = some v ∧ Dq H v d := by
  unfold atI at ha ⊢
  rw [h.length]
  cases e : ixN ds.length i with
  | none => rw [e] at ha; cases ha
  | some k =>
    rw [e] at ha
    exact h.at_ (i := k) ha
theorem atI_ty {H : Hp} {xs : List V} (h : Tys H Ts xs) (ha : atI Ts i = some T) : ∃ v, atI xs i = some v ∧ T.p H v := by
  unfold atI at ha ⊢
  rw [← h.length]
  cases e : ixN Ts.length i with
  | none => rw [e] at ha; cases ha
  | some k =>
    rw [e] at ha
    exact h.at_ (i := k) ha
theorem r2_ixL (h : atI ds i = some d) : R2V (rIxL K) (D (.list ds)) (D (.int i)) (D d) := fun Hs H x y Q s hx hy q => by
  obtain ⟨a, xs, rfl, h1, h2⟩ := dq_list hx
  obtain ⟨v, e, hv⟩ := atI_dq h2 h
  exact ⟨a, xs, i, v, rfl, dq_int hy, SqL.of (s _ _ h1), e, q _ _ _ (Ext.refl s) hv⟩
theorem r2_ixT (h : atI ds i = some d) : R2V (rIxT K) (D (.tuple ds)) (D (.int i)) (D d) := fun Hs H x y Q s hx hy q => by
  obtain ⟨a, xs, rfl, h1, h2⟩ := dq_tup hx
  obtain ⟨v, e, hv⟩ := atI_dq h2 h
  exact ⟨a, xs, i, v, rfl, dq_int hy, SqT.of (s _ _ h1), e, q _ _ _ (Ext.refl s) hv⟩
theorem r2_ixS {z : Str} {cp : Nat} (hz : z.length ≤ 100000) (h : atI z.cps.toList i = some cp) : R2V rIxS (D (.str z)) (D (.int i)) (D (.str ⟨#[cp]⟩)) := fun Hs H x y Q s hx hy q =>
  ⟨z, i, cp, dq_str hx, dq_int hy, Nat.le_trans hz (by decide), h, q _ _ _ (Ext.refl s) (.str _)⟩
theorem r2_catL (h : ds.length + ds'.length ≤ 100000) : R2V rCat (D (.list ds)) (D (.list ds')) (D (.list (ds ++ ds'))) := fun Hs H x y Q s hx hy q => by
  obtain ⟨a, xs, rfl, h1, h2⟩ := dq_list hx
  obtain ⟨b, ys, rfl, h3, h4⟩ := dq_list hy
  refine ⟨a, b, xs, ys, rfl, rfl, s _ _ h1, s _ _ h3, by rw [h2.length, h4.length]; exact Nat.le_trans h (by decide), fun p hp => q _ _ _ (Ext.new s hp) ?_⟩
  exact .lst upd_same (dqs_mono ((Same.refl _).newU (s.free hp)) _ _ (h2.append h4))
theorem r2_catT (h : ds.length + ds'.length ≤ 100000) : R2V (rCatA K) (D (.tuple ds)) (D (.tuple ds')) (D (.tuple (ds ++ ds'))) := fun Hs H x y Q s hx hy q => by
  obtain ⟨a, xs, rfl, h1, h2⟩ := dq_tup hx
  obtain ⟨b, ys, rfl, h3, h4⟩ := dq_tup hy
  have l1 := h2.length
  have l2 := h4.length
  refine ⟨a, b, xs, ys, rfl, rfl, SqT.of (s _ _ h1), SqT.of (s _ _ h3), by rw [l1, l2]; exact Nat.le_trans h (by decide), fun e => ?_, fun _ e => ?_, fun _ _ p hp => q _ _ _ (Ext.new s hp) ?_⟩
  · subst e
    have e : ds = [] := List.length_eq_zero_iff.mp l1.symm
    subst e
    exact q _ _ _ (Ext.refl s) (.tup h3 h4)
  · subst e
    have e : ds' = [] := List.length_eq_zero_iff.mp l2.symm
    subst e
    rw [List.append_nil] at q
    exact q _ _ _ (Ext.refl s) (.tup h1 h2)
  · exact .tup upd_same (dqs_mono ((Same.refl _).newU (s.free hp)) _ _ (h2.append h4))
theorem rep_dq {H : Hp} {xs : List V} (h : DqAll H xs ds) : ∀ k : Nat, DqAll H (List.replicate k xs).flatten (List.replicate k ds).flatten
  | 0 => .nil
  | k + 1 => by
    rw [List.replicate_succ, List.replicate_succ, List.flatten_cons, List.flatten_cons]
    exact h.append (rep_dq h k)
theorem r2_repL (h1 : -(2 ^ 63) ≤ i) (h2 : i < 2 ^ 63) (h : ds.length * i.toNat ≤ 100000) : R2V rRep (D (.list ds)) (D (.int i)) (D (.list (List.replicate i.toNat ds).flatten)) := fun Hs H x y Q s hx hy q => by
  obtain ⟨a, xs, rfl, h3, h4⟩ := dq_list hx
  refine ⟨a, i, xs, rfl, dq_int hy, s _ _ h3, h1, h2, by rw [h4.length]; exact Nat.le_trans h (by decide), fun p hp => q _ _ _ (Ext.new s hp) ?_⟩
  exact .lst upd_same (dqs_mono ((Same.refl _).newU (s.free hp)) _ _ (rep_dq h4 _))
/-! slices -/
def EP1 (X : Cx) (ρ : List Sl) (e : Option Expr) (o : Option Int) : Prop := (e = none ∧ o = none) ∨ ∃ e' i, e = some e' ∧ o = some i ∧ EE X ρ e' (D (.int i))
theorem ep_none : EP1 X ρ none none := .inl ⟨rfl, rfl⟩
theorem ep_some (h : EE X ρ e (D (.int i))) : EP1 X ρ (some e) (some i) := .inr ⟨e, i, rfl, rfl, h⟩
def RP (X : Cx) (e : Option Expr) : TO := match e with | none => tNoPart | some e => tPart (RE X e)
theorem po_RP {e : Option Expr} : PO X e (RP X e) := by
  cases e with
  | none => exact po_none
  | some e => exact po_some pe_RE
theorem EP1.run {e : Option Expr} {o : Option Int} (h : EP1 X ρ e o) {F Hs H : Hp} {σ : L2.St} {Q : Option Int → Hp → Prop} (E : ER ρ F Hs H σ) (q : ∀ Hs' H', Ext Hs H Hs' H' → Q o H') : RP X e σ H Q := by
  rcases h with ⟨rfl, rfl⟩ | ⟨e', i, rfl, rfl, h⟩
  · exact q _ _ (Ext.refl E.s)
  · exact h F Hs H σ _ E fun x Hs1 H1 X1 hx => ⟨i, dq_int hx, q _ _ X1⟩
def RSlV (r : V → Option Int → Option Int → Hp → VK → Prop) (A : Ty) (lo hi : Option Int) (T : Ty) : Prop := ∀ (Hs H : Hp) (x : V) (Q : VK), Same Hs H → A.p Hs x → (∀ z Hs' H', Ext Hs H Hs' H' → T.p Hs' z → Q z H') → r x lo hi H Q
theorem ee_sl {r : V → Option Int → Option Int → Hp → VK → Prop} {lo hi : Option Expr} {l h : Option Int} {p2 : Pos} (hr : SlR X r) (he : EE X ρ e A) (hl : EP1 X ρ lo l) (hh : EP1 X ρ hi h) (hv : RSlV r A l h T) : EE X ρ (.Subscript e (.Slice lo hi none p2) pos) T := fun F Hs H σ Q E q => by
  refine RE.of (pe_slice hr pe_RE po_RP po_RP) ?_
  refine he F Hs H σ _ E fun x Hs1 H1 X1 hx => ?_
  refine hl.run (E.ext X1) fun Hs2 H2 X2 => ?_
  refine hh.run ((E.ext X1).ext X2) fun Hs3 H3 X3 => ?_
  exact hv Hs3 H3 x Q X3.b (A.mono (X2.a.trans X3.a) hx) fun z Hs' H' X4 hz => q z _ _ (((X1.trans X2).trans X3).trans X4) hz
def cutP (xs : List PyData) (lo hi : Option Int) : List PyData := (xs.drop (HT.sIx xs.length 0 lo)).take (HT.sIx xs.length xs.length hi - HT.sIx xs.length 0 lo)
theorem cut_dq {H : Hp} {xs : List V} (h : DqAll H xs ds) (lo hi : Option Int) : DqAll H (cutV xs lo hi) (cutP ds lo hi) := by
  unfold cutV cutP
  rw [h.length]
  exact (h.drop _).take _
theorem rs_T {l h : Option Int} : RSlV (rSlA K) (D (.tuple ds)) l h (D (.tuple (cutP ds l h))) := fun Hs H x Q s hx q => by
  obtain ⟨a, xs, rfl, h1, h2⟩ := dq_tup hx
  have hc := cut_dq h2 l h
  refine ⟨a, xs, rfl, SqT.of (s _ _ h1), fun ⟨e1, e2⟩ => ?_, fun _ p hp => q _ _ _ (Ext.new s hp) (.tup upd_same (dqs_mono ((Same.refl _).newU (s.free hp)) _ _ hc))⟩
  have e3 : cutV xs l h = xs := by
    unfold cutV
    rw [e1, e2, List.drop_zero, Nat.sub_zero, List.take_length]
  rw [e3] at hc
  exact q _ _ _ (Ext.refl s) (.tup h1 hc)
theorem rs_L {l h : Option Int} : RSlV (rSlL K) (D (.list ds)) l h (D (.list (cutP ds l h))) := fun Hs H x Q s hx q => by
  obtain ⟨a, xs, rfl, h1, h2⟩ := dq_list hx
  exact ⟨a, xs, rfl, SqL.of (s _ _ h1), fun p hp => q _ _ _ (Ext.new s hp) (.lst upd_same (dqs_mono ((Same.refl _).newU (s.free hp)) _ _ (cut_dq h2 l h)))⟩
theorem rs_S {l h : Option Int} {z : Str} (hz : z.length ≤ 100000) : RSlV rSlS (D (.str z)) l h (D (.str (cutS z l h))) := fun Hs H x Q s hx q =>
  ⟨z, dq_str hx, Nat.le_trans hz (by decide), q _ _ _ (Ext.refl s) (.str _)⟩
/-! tests, and, or, not -/
theorem et_val {k : Bool} (h : EE X ρ e (D (.bool k))) (he : ∀ whole, isTrue e X.env whole = (do let v ← whole; standAt e.pos; holding [v] (truthy v)) := by intro _; rfl) : ET X ρ e k := fun F Hs H σ Q E q =>
  RT.of (pt_val pe_RE he) (h F Hs H σ _ E fun x Hs1 H1 X1 hx => ⟨k, dq_bool hx, q _ _ X1⟩)
theorem et_not {k : Bool} (h : ET X ρ a k) : ET X ρ (.UnaryOp .Not a pos) (!k) := fun F Hs H σ Q E q => RT.of (pt_not pt_RT) (h F Hs H σ _ E fun Hs1 H1 X1 => q _ _ X1)
theorem ee_not {k : Bool} (h : EE X ρ a (D (.bool k))) : EE X ρ (.UnaryOp .Not a pos) (D (.bool (!k))) := fun F Hs H σ Q E q => RE.of (pe_not pe_RE) (h F Hs H σ _ E fun x Hs1 H1 X1 hx => ⟨k, dq_bool hx, q _ _ _ X1 (.bl _)⟩)
variable {rest : List Expr} {k k' : Bool}
theorem EW.t (h : EW X ρ e k) : ET X ρ e k := fun F Hs H σ Q E q => RT.of pw_RW.pt (h F Hs H σ Q E q)
theorem ew_and1 (h : ET X ρ a k) : EW X ρ (.BoolOp .And [a] pos) k := fun F Hs H σ Q E q => RW.of (pw_and1 pt_RT) (h F Hs H σ Q E q)
theorem ew_or1 (h : ET X ρ a k) : EW X ρ (.BoolOp .Or [a] pos) k := fun F Hs H σ Q E q => RW.of (pw_or1 pt_RT) (h F Hs H σ Q E q)
theorem ew_and (h : ET X ρ a k) (h2 : k = true → EW X ρ (.BoolOp .And (b :: rest) pos) k') : EW X ρ (.BoolOp .And (a :: b :: rest) pos) (k && k') := fun F Hs H σ Q E q => by
  refine RW.of (pw_and pt_RT pw_RW) ?_
  refine h F Hs H σ _ E fun Hs1 H1 X1 => ?_
  cases k with
  | true => exact iteT (h2 rfl F Hs1 H1 σ _ (E.ext X1) fun Hs2 H2 X2 => q _ _ (X1.trans X2))
  | false => exact iteF (q _ _ X1)
theorem ew_or (h : ET X ρ a k) (h2 : k = false → EW X ρ (.BoolOp .Or (b :: rest) pos) k') : EW X ρ (.BoolOp .Or (a :: b :: rest) pos) (k || k') := fun F Hs H σ Q E q => by
  refine RW.of (pw_or pt_RT pw_RW) ?_
  refine h F Hs H σ _ E fun Hs1 H1 X1 => ?_
  cases k with
  | true => exact iteT (q _ _ X1)
  | false => exact iteF (h2 rfl F Hs1 H1 σ _ (E.ext X1) fun Hs2 H2 X2 => q _ _ (X1.trans X2))
theorem ee_one {op} (h : EE X ρ a T) : EE X ρ (.BoolOp op [a] pos) T := fun F Hs H σ Q E q => RE.of (pe_one pe_RE) (h F Hs H σ Q E q)
theorem ee_and (h : EE X ρ a (D (.bool k))) (h2 : k = true → EE X ρ (.BoolOp .And (b :: rest) pos) (D (.bool k'))) : EE X ρ (.BoolOp .And (a :: b :: rest) pos) (D (.bool (k && k'))) := fun F Hs H σ Q E q => by
  refine RE.of (pe_and pe_RE pe_RE) ?_
  refine h F Hs H σ _ E fun x Hs1 H1 X1 hx => ⟨k, dq_bool hx, ?_⟩
  cases k with
  | true => exact iteT (h2 rfl F Hs1 H1 σ _ (E.ext X1) fun v Hs2 H2 X2 hv => q _ _ _ (X1.trans X2) hv)
  | false => exact iteF (q _ _ _ X1 (.bl _))
/-! calls of what is built in -/
def RCV (r : List V → Hp → VK → Prop) (Ts : List Ty) (T : Ty) : Prop := ∀ (Hs H : Hp) (vs : List V) (Q : VK), Same Hs H → Tys Hs Ts vs → (∀ z Hs' H', Ext Hs H Hs' H' → T.p Hs' z → Q z H') → r vs H Q
def RCO (r : List V → Hp → VK → Prop) (Ts : List Ty) (O : Ow) : Prop := ∀ (Hs H : Hp) (vs : List V) (Q : VK), Same Hs H → Tys Hs Ts vs → (∀ p u Hs' H', Ext Hs H Hs' H' → H p = none → Hs' p = none → H' p = some u → O.p Hs' p u → Q (.ref p) H') → r vs H Q
variable {x : Str} {p : Pos} {id : String} {r : List V → Hp → VK → Prop}
theorem ee_callB (hc : CallR X (.builtin id) r) (hm : X.mg x = none) (hv : bootBuiltins x = some (.builtin id)) (ha : EA X ρ (e :: es) Ts) (hr : RCV r Ts T) (hg : Gl X x := by rfl) (hn : x ≠ "__name__" := by decide) (hdb : (x == ("__debug__" : Str)) = false := by decide)
    (he : starEach (e :: es) X.env = (false, eval e X.env) :: starEach es X.env := by rfl) (hpl : (backTo pos (starEach es X.env)).any (·.1) = false := by rfl) : EE X ρ (.Call (.Name x p) (e :: es) [] pos) T := fun F Hs H σ Q E q => by
  refine RE.of (pe_callB hc hg hm hv pa_RA hn hdb he hpl) ?_
  exact ha F Hs H σ _ E fun vs Hs1 H1 X1 hvs => hr Hs1 H1 vs Q X1.b hvs fun z Hs2 H2 X2 hz => q _ _ _ (X1.trans X2) hz
theorem ee_callTy (hc : CallR X (.type id) r) (hm : X.mg x = none) (hv : bootBuiltins x = some (.type id)) (ha : EA X ρ (e :: es) Ts) (hr : RCV r Ts T) (hg : Gl X x := by rfl) (hn : x ≠ "__name__" := by decide) (hdb : (x == ("__debug__" : Str)) = false := by decide)
    (he : starEach (e :: es) X.env = (false, eval e X.env) :: starEach es X.env := by rfl) (hpl : (backTo pos (starEach es X.env)).any (·.1) = false := by rfl) : EE X ρ (.Call (.Name x p) (e :: es) [] pos) T := fun F Hs H σ Q E q => by
  refine RE.of (pe_callTy hc hg hm hv pa_RA hn hdb he hpl) ?_
  exact ha F Hs H σ _ E fun vs Hs1 H1 X1 hvs => hr Hs1 H1 vs Q X1.b hvs fun z Hs2 H2 X2 hz => q _ _ _ (X1.trans X2) hz
theorem eo_callB (hc : CallR X (.builtin id) r) (hm : X.mg x = none) (hv : bootBuiltins x = some (.builtin id)) (ha : EA X ρ (e :: es) Ts) (hr : RCO r Ts O) (hg : Gl X x := by rfl) (hn : x ≠ "__name__" := by decide) (hdb : (x == ("__debug__" : Str)) = false := by decide)
    (he : starEach (e :: es) X.env = (false, eval e X.env) :: starEach es X.env := by rfl) (hpl : (backTo pos (starEach es X.env)).any (·.1) = false := by rfl) : EO X ρ (.Call (.Name x p) (e :: es) [] pos) O := fun F Hs H σ Q E q => by
  refine RE.of (pe_callB hc hg hm hv pa_RA hn hdb he hpl) ?_
  exact ha F Hs H σ _ E fun vs Hs1 H1 X1 hvs => hr Hs1 H1 vs Q X1.b hvs fun p u Hs2 H2 X2 h1 h2 h3 h4 => q p u _ _ (X1.trans X2) (X1.free E.s h1) h2 h3 h4
theorem eo_callTy (hc : CallR X (.type id) r) (hm : X.mg x = none) (hv : bootBuiltins x = some (.type id)) (ha : EA X ρ (e :: es) Ts) (hr : RCO r Ts O) (hg : Gl X x := by rfl) (hn : x ≠ "__name__" := by decide) (hdb : (x == ("__debug__" : Str)) = false := by decide)
    (he : starEach (e :: es) X.env = (false, eval e X.env) :: starEach es X.env := by rfl) (hpl : (backTo pos (starEach es X.env)).any (·.1) = false := by rfl) : EO X ρ (.Call (.Name x p) (e :: es) [] pos) O := fun F Hs H σ Q E q => by
  refine RE.of (pe_callTy hc hg hm hv pa_RA hn hdb he hpl) ?_
  exact ha F Hs H σ _ E fun vs Hs1 H1 X1 hvs => hr Hs1 H1 vs Q X1.b hvs fun p u Hs2 H2 X2 h1 h2 h3 h4 => q p u _ _ (X1.trans X2) (X1.free E.s h1) h2 h3 h4
theorem tys1 {H : Hp} {vs : List V} (h : Tys H [A] vs) : ∃ v, vs = [v] ∧ A.p H v := by
  cases h with
  | cons h t => cases t; exact ⟨_, rfl, h⟩
theorem tys2 {H : Hp} {vs : List V} (h : Tys H [A, B] vs) : ∃ v w, vs = [v, w] ∧ A.p H v ∧ B.p H w := by
  cases h with
  | cons h t =>
    cases t with
    | cons h2 t => cases t; exact ⟨_, _, rfl, h, h2⟩
def rLenQ (K : PySem.W.Frag) : List V → Hp → VK → Prop := fun xs H Q => ∃ p ys, xs = [.ref p] ∧ (SqL K H p ys ∨ SqT K H p ys) ∧ Q (.int ys.length) H
theorem rc_lenL : RCV (rLenQ K) [D (.list ds)] (D (.int ds.length)) := fun Hs H vs Q s h q => by
  obtain ⟨v, rfl, hv⟩ := tys1 h
  obtain ⟨a, xs, rfl, h1, h2⟩ := dq_list hv
  refine ⟨a, xs, rfl, .inl (SqL.of (s _ _ h1)), q _ _ _ (Ext.refl s) ?_⟩
  rw [h2.length]
  exact .int _
theorem rc_lenT : RCV (rLenQ K) [D (.tuple ds)] (D (.int ds.length)) := fun Hs H vs Q s h q => by
  obtain ⟨v, rfl, hv⟩ := tys1 h
  obtain ⟨a, xs, rfl, h1, h2⟩ := dq_tup hv
  refine ⟨a, xs, rfl, .inr (SqT.of (s _ _ h1)), q _ _ _ (Ext.refl s) ?_⟩
  rw [h2.length]
  exact .int _
theorem rc_lenS {z : Str} (hz : z.length ≤ 100000) : RCV (fun xs H Q => ∃ z, xs = [.str z] ∧ z.length ≤ sizeLine ∧ Q (.int z.length) H) [D (.str z)] (D (.int z.length)) := fun Hs H vs Q s h q => by
  obtain ⟨v, rfl, hv⟩ := tys1 h
  exact ⟨z, by rw [dq_str hv], Nat.le_trans hz (by decide), q _ _ _ (Ext.refl s) (.int _)⟩
theorem dq_bls {H : Hp} : ∀ {bs : List Bool} {xs : List V}, DqAll H xs (bs.map PyData.bool) → xs = bs.map V.bl
  | [], _, h => by cases h; rfl
  | b :: bs, _, h => by
    cases h with
    | cons h1 h2 => rw [dq_bool h1, dq_bls h2]; rfl
theorem rc_all {bs : List Bool} : RCV (rAll K) [D (.list (bs.map PyData.bool))] (D (.bool (bs.all _root_.id))) := fun Hs H vs Q s h q => by
  obtain ⟨v, rfl, hv⟩ := tys1 h
  obtain ⟨a, xs, rfl, h1, h2⟩ := dq_list hv
  have e := dq_bls h2
  subst e
  exact ⟨a, bs, rfl, SqL.of (s _ _ h1), q _ _ _ (Ext.refl s) (.bl _)⟩
theorem rc_any {bs : List Bool} : RCV (rAny K) [D (.list (bs.map PyData.bool))] (D (.bool (bs.any _root_.id))) := fun Hs H vs Q s h q => by
  obtain ⟨v, rfl, hv⟩ := tys1 h
  obtain ⟨a, xs, rfl, h1, h2⟩ := dq_list hv
  have e := dq_bls h2
  subst e
  exact ⟨a, bs, rfl, SqL.of (s _ _ h1), q _ _ _ (Ext.refl s) (.bl _)⟩
theorem rc_intB {k : Bool} : RCV (fun xs H Q => (∃ i, xs = [.int i] ∧ Q (.int i) H) ∨ ∃ k : Bool, xs = [.bl k] ∧ Q (.int (if k then 1 else 0)) H) [D (.bool k)] (D (.int (if k then 1 else 0))) := fun Hs H vs Q s h q => by
  obtain ⟨v, rfl, hv⟩ := tys1 h
  exact .inr ⟨k, by rw [dq_bool hv], q _ _ _ (Ext.refl s) (.int _)⟩
theorem rc_divmod (h1 : 0 < j) (h2 : j < 1073741824) : RCV (fun xs H Q => ∃ i j, xs = [.int i, .int j] ∧ CDiv i j ∧ ∀ p, H p = none → Q (.ref p) (upd H p (.tup [.int (i / j), .int (i % j)]))) [D (.int i), D (.int j)] (D (.tuple [.int (i / j), .int (i % j)])) := fun Hs H vs Q s h q => by
  obtain ⟨v, w, rfl, ha, hb⟩ := tys2 h
  refine ⟨i, j, by rw [dq_int ha, dq_int hb], ⟨h1, h2⟩, fun p hp => q _ _ _ (Ext.new s hp) ?_⟩
  exact .tup upd_same (.cons (.int _) (.cons (.int _) .nil))
def rListQ (K : PySem.W.Frag) : List V → Hp → VK → Prop := fun xs H Q => ∃ p ys, xs = [.ref p] ∧ (SqL K H p ys ∨ SqT K H p ys) ∧ ∀ l, H l = none → Q (.ref l) (upd H l (.lst ys))
theorem rco_list : RCO (rListQ K) [D (.list ds)] (OwnL ds) := fun Hs H vs Q s h q => by
  obtain ⟨v, rfl, hv⟩ := tys1 h
  obtain ⟨a, xs, rfl, h1, h2⟩ := dq_list hv
  exact ⟨a, xs, rfl, .inl (SqL.of (s _ _ h1)), fun l hl => q l _ _ _ (Ext.newO s hl) hl (s.free hl) upd_same ⟨xs, rfl, h2⟩⟩
def rTupQ (K : PySem.W.Frag) : List V → Hp → VK → Prop := fun xs H Q => ∃ p ys, xs = [.ref p] ∧ ((SqL K H p ys ∧ ∀ l, H l = none → Q (.ref l) (upd H l (.tup ys))) ∨ (SqT K H p ys ∧ Q (.ref p) H))
theorem rc_tuple : RCV (rTupQ K) [D (.list ds)] (D (.tuple ds)) := fun Hs H vs Q s h q => by
  obtain ⟨v, rfl, hv⟩ := tys1 h
  obtain ⟨a, xs, rfl, h1, h2⟩ := dq_list hv
  exact ⟨a, xs, rfl, .inl ⟨SqL.of (s _ _ h1), fun l hl => q _ _ _ (Ext.new s hl) (.tup upd_same (dqs_mono ((Same.refl _).newU (s.free hl)) _ _ h2))⟩⟩
/-! isinstance -/
def tyName : PyData → String
  | .none => "NoneType"
  | .bool _ => "bool"
  | .int _ => "int"
  | .str _ => "str"
  | .list _ => "list"
  | .tuple _ => "tuple"
  | .dict _ => "dict"
theorem dq_ty {H : Hp} {v : V} (h : Dq H v d) : TyX K H v (.type (tyName d)) := by
  cases h with
  | non => exact .base .non
  | bl b => exact .base (.bl b)
  | int i => exact .base (.int i)
  | str x => exact .base (.str x)
  | lst h1 h2 => exact .base (.lst h1)
  | tup h1 h2 => exact .base (.tup h1)
theorem rc_isi {n : String} {k : Bool} (h : kitB (tyName d) n = some k) : RCV (rIsi K) [D d, Cst (.ty n)] (D (.bool k)) := fun Hs H vs Q s hv q => by
  obtain ⟨v, w, rfl, ha, hb⟩ := tys2 hv
  exact ⟨v, w, _, .type n, k, rfl, by rw [show w = V.ty n from hb]; exact .ty n, dq_ty (dq_mono s _ _ ha), kit_ty h, q _ _ _ (Ext.refl s) (.bl _)⟩
end
end DL

set_option Elab.async false
set_option linter.all false
set_option maxRecDepth 100000
set_option maxHeartbeats 4000000
namespace DL
open PySem PySem.Spec PyProof.Rows L2
def RG (X : Cx) (tg : Expr) : TG := fun v σ H Q => ∀ (pins : List (Addr × Obj)) (s : Shared) (u : Value), Inv X pins σ H s → RelV v u →
  wpAny (model X.prog X.w) X.A (assign tg X.env u) (fun _ s' => ∃ σ' H', Inv X pins σ' H' s' ∧ Q σ' H') X.xe s
theorem pg_RG {X : Cx} {tg : Expr} : PG X tg (RG X tg) := ⟨fun pins s σ H v u Q I r h => h pins s u I r⟩
theorem RG.of {X : Cx} {tg : Expr} {t : TG} (h : PG X tg t) {v : V} {σ : L2.St} {H : Hp} {Q : L2.St → Hp → Prop} (q : t v σ H Q) : RG X tg v σ H Q := fun pins s u I r => h.run pins s σ H v u Q I r q
def RI (X : Cx) (tg it : Expr) : TI := fun σ H R => ∀ (pins : List (Addr × Obj)) (s : Shared), Inv X pins σ H s →
  wpAny (model X.prog X.w) X.A (eval it X.env) (fun v s1 => wpAny (model X.prog X.w) X.A (pyIter v) (PIE X pins σ tg R) X.xe s1) X.xe s
theorem pi_RI {X : Cx} {tg it : Expr} : PI X tg it (RI X tg it) := ⟨fun pins s σ H R I h => h pins s I⟩
theorem RI.of {X : Cx} {tg it : Expr} {t : TI} (h : PI X tg it t) {σ : L2.St} {H : Hp} {R : It → Hp → Prop} (q : t σ H R) : RI X tg it σ H R := fun pins s I => h.run pins s σ H R I q
def RS (X : Cx) (st : Stmt) : TS := fun D σ H => ∀ (pins : List (Addr × Obj)) (s : Shared), Inv X pins σ H s → wpAny (model X.prog X.w) X.A (exec st X.env) (SP X pins D) X.xe s
def RSs (X : Cx) (sts : List Stmt) : TS := fun D σ H => ∀ (pins : List (Addr × Obj)) (s : Shared), Inv X pins σ H s → wpAny (model X.prog X.w) X.A (execs sts X.env) (SP X pins D) X.xe s
theorem ps_RS {X : Cx} {st : Stmt} : PS X st (RS X st) := ⟨fun pins s σ H D I h => h pins s I⟩
theorem pss_RSs {X : Cx} {sts : List Stmt} : PSs X sts (RSs X sts) := ⟨fun pins s σ H D I h => h pins s I⟩
theorem RSs.of {X : Cx} {sts : List Stmt} {t : TS} (h : PSs X sts t) {D : Ends} {σ : L2.St} {H : Hp} (q : t D σ H) : RSs X sts D σ H := fun pins s I => h.run pins s σ H D I q
theorem RSs.cons {X : Cx} {st : Stmt} {rest : List Stmt} {t : TS} (h : PS X st t) {D : Ends} {σ : L2.St} {H : Hp} (q : t { D with nx := RSs X rest D } σ H) : RSs X (st :: rest) D σ H := RSs.of (pss_cons h pss_RSs) q

/-! ### targets -/
def GG (X : Cx) (ρ : List Sl) (tg : Expr) (T : Ty) (ρ' : List Sl) (js : List Nat) : Prop := ∀ (F Hs H : Hp) (σ : L2.St) (v : V) (Q : L2.St → Hp → Prop), ER ρ F Hs H σ → T.p Hs v →
  (∀ σ', ER ρ' F Hs H σ' → σ'.length = σ.length → (∀ i, i ∉ js → σ'[i]? = σ[i]?) → Q σ' H) → RG X tg v σ H Q
def TupT (Ts : List Ty) : Ty := ⟨fun H v => ∃ a xs, v = .ref a ∧ H a = some (.tup xs) ∧ Tys H Ts xs, fun e ⟨a, xs, h1, h2, h3⟩ => ⟨a, xs, h1, e _ _ h2, h3.mono e⟩⟩
theorem TupT.of {ds : List PyData} {H : Hp} {v : V} (h : (D (.tuple ds)).p H v) : (TupT (ds.map D)).p H v := by
  obtain ⟨a, xs, h1, h2, h3⟩ := dq_tup h
  exact ⟨a, xs, h1, h2, tys_of h3⟩
section
variable {X : Cx} {ρ ρ1 ρ2 : List Sl} {e e1 e2 tg it : Expr} {T T1 T2 : Ty} {Ts : List Ty} {pos : Pos} {js1 js2 : List Nat} {ds : List PyData} {d1 d2 : PyData}
theorem gg_name (i : Nat) {x : Str} (hN : X.N.Nodup) (hi : X.N[i]? = some x) (hx : Loc X.env.scope x) (hf : X.fn x = true ∨ X.env.scope.names.lookup x = some .local := by first | exact .inl rfl | exact .inr rfl | assumption) : GG X ρ (.Name x pos) T (ρ.set i (.va T)) [i] :=
  fun F Hs H σ v Q E hv q => RG.of (pg_name hN hi hx hf) (q _ (E.set i hv) (List.length_set ..) fun j hj => by
    rw [List.getElem?_set_ne (fun e => hj (by rw [e]; exact List.mem_singleton_self _))])
theorem GG.le {T' : Ty} {js : List Nat} (h : GG X ρ tg T ρ1 js) (l : ∀ H v, T'.p H v → T.p H v) : GG X ρ tg T' ρ1 js := fun F Hs H σ v Q E hv q => h F Hs H σ v Q E (l _ _ hv) q
theorem gg_two {k} (hc : X.calm = true) (h1 : GG X ρ e1 T1 ρ1 js1) (h2 : GG X ρ1 e2 T2 ρ2 js2)
    (hs1 : (assignEach [e1, e2] X.env).map (·.2) = assign e1 X.env :: (assignEach [e2] X.env).map (·.2) := by rfl) (hs2 : (assignEach [e2] X.env).map (·.2) = assign e2 X.env :: (assignEach [] X.env).map (·.2) := by rfl)
    (hn : (assignEach [e1, e2] X.env).length = 2 := by rfl) (hst : (assignEach [e1, e2] X.env).findIdx? (·.1) = none := by rfl) : GG X ρ (.Tuple [e1, e2] k pos) (TupT [T1, T2]) ρ2 (js1 ++ js2) := fun F Hs H σ v Q E hv q => by
  refine RG.of (pg_tup hc (pgs_cons pg_RG (pgs_cons pg_RG pgs_nil hs2) hs1) hn hst) ?_
  obtain ⟨a, xs, rfl, ha, ht⟩ := hv
  cases ht with
  | cons t1 t =>
    cases t with
    | cons t2 t =>
      cases t
      refine ⟨a, _, rfl, SqT.of (E.s _ _ ha), rfl, _, _, rfl, ?_⟩
      refine h1 F Hs H σ _ _ E t1 fun σ1 E1 l1 c1 => ?_
      refine ⟨_, _, rfl, ?_⟩
      refine h2 F Hs H σ1 _ _ E1 t2 fun σ2 E2 l2 c2 => ⟨rfl, ?_⟩
      refine q σ2 E2 (l2.trans l1) fun i hi => ?_
      rw [c2 i (fun z => hi (List.mem_append_right _ z)), c1 i (fun z => hi (List.mem_append_left _ z))]
theorem gg_pair {k} (hc : X.calm = true) (h1 : GG X ρ e1 (D d1) ρ1 js1) (h2 : GG X ρ1 e2 (D d2) ρ2 js2)
    (hs1 : (assignEach [e1, e2] X.env).map (·.2) = assign e1 X.env :: (assignEach [e2] X.env).map (·.2) := by rfl) (hs2 : (assignEach [e2] X.env).map (·.2) = assign e2 X.env :: (assignEach [] X.env).map (·.2) := by rfl)
    (hn : (assignEach [e1, e2] X.env).length = 2 := by rfl) (hst : (assignEach [e1, e2] X.env).findIdx? (·.1) = none := by rfl) : GG X ρ (.Tuple [e1, e2] k pos) (D (.tuple [d1, d2])) ρ2 (js1 ++ js2) :=
  (gg_two (pos := pos) (k := k) hc h1 h2 hs1 hs2 hn hst).le fun _ _ h => TupT.of h
/-- a list of two -/
theorem gg_lst2 {k} (hc : X.calm = true) (h1 : GG X ρ e1 T1 ρ1 js1) (h2 : GG X ρ1 e2 T2 ρ2 js2)
    (hs1 : (assignEach [e1, e2] X.env).map (·.2) = assign e1 X.env :: (assignEach [e2] X.env).map (·.2) := by rfl) (hs2 : (assignEach [e2] X.env).map (·.2) = assign e2 X.env :: (assignEach [] X.env).map (·.2) := by rfl)
    (hn : (assignEach [e1, e2] X.env).length = 2 := by rfl) (hst : (assignEach [e1, e2] X.env).findIdx? (·.1) = none := by rfl) : GG X ρ (.Tuple [e1, e2] k pos) (LstT [T1, T2]) ρ2 (js1 ++ js2) := fun F Hs H σ v Q E hv q => by
  refine RG.of (pg_unl hc (pgs_cons pg_RG (pgs_cons pg_RG pgs_nil hs2) hs1) hn hst) ?_
  obtain ⟨a, xs, rfl, ha, ht⟩ := hv
  cases ht with
  | cons t1 t =>
    cases t with
    | cons t2 t =>
      cases t
      refine ⟨a, _, rfl, SqL.of (E.s _ _ ha), rfl, _, _, rfl, ?_⟩
      refine h1 F Hs H σ _ _ E t1 fun σ1 E1 l1 c1 => ?_
      refine ⟨_, _, rfl, ?_⟩
      refine h2 F Hs H σ1 _ _ E1 t2 fun σ2 E2 l2 c2 => ⟨rfl, ?_⟩
      refine q σ2 E2 (l2.trans l1) fun i hi => ?_
      rw [c2 i (fun z => hi (List.mem_append_right _ z)), c1 i (fun z => hi (List.mem_append_left _ z))]

/-! ### what is walked -/
def Good (J : It) (Ts : List Ty) (Hs : Hp) : Prop := ∀ Hs2 H2, Same Hs Hs2 → Same Hs2 H2 → ∀ i, i ≤ Ts.length →
  (∀ T, Ts[i]? = some T → J.go i H2 ∧ ∀ x H', J.yld i H2 x H' → ∃ Hs3, Ext Hs2 H2 Hs3 H' ∧ T.p Hs3 x) ∧ (i = Ts.length → J.stop i H2)
def IT (X : Cx) (ρ : List Sl) (tg it : Expr) (Ts : List Ty) : Prop := ∀ (F Hs H : Hp) (σ : L2.St) (R : It → Hp → Prop), ER ρ F Hs H σ → (∀ J Hs' H', Ext Hs H Hs' H' → Good J Ts Hs' → R J H') → RI X tg it σ H R
theorem sqL_one {K : PySem.W.Frag} {H : Hp} {a : Addr} {xs ys : List V} (h : H a = some (.lst xs)) (hy : ys = xs) : SqL K H a ys := by rw [hy]; exact SqL.of h
theorem good_list {K : PySem.W.Frag} {Hs : Hp} {a : Addr} {xs : List V} (h : Hs a = some (.lst xs)) (ht : Tys Hs Ts xs) : Good (Itl K a) Ts Hs := fun Hs2 H2 e1 e2 i hi => by
  have hl := ht.length
  have hS : SqL K H2 a xs := SqL.of (e2 _ _ (e1 _ _ h))
  refine ⟨fun T hT => ?_, fun e => ⟨xs, hS, by omega⟩⟩
  obtain ⟨v, hv, hp⟩ := ht.at_ hT
  refine ⟨⟨xs, v, hS, hv⟩, fun x H' y => ?_⟩
  obtain ⟨rfl, y⟩ := y
  have ex := y xs hS
  rw [hv] at ex
  rw [← Option.some.inj ex]
  exact ⟨Hs2, Ext.refl e2, T.mono e1 hp⟩
theorem it_list (h : EE X ρ it (LstT Ts)) : IT X ρ tg it Ts := fun F Hs H σ R E q => by
  refine RI.of (pi_list pe_RE) ?_
  refine h F Hs H σ _ E fun v Hs1 H1 X1 hv => ?_
  obtain ⟨a, xs, rfl, ha, ht⟩ := hv
  exact ⟨a, rfl, ⟨xs, SqL.of (X1.b _ _ ha)⟩, q _ _ _ X1 (good_list ha ht)⟩
theorem it_listD (h : EE X ρ it (D (.list ds))) : IT X ρ tg it (ds.map D) := it_list (h.le fun _ _ => LstT.of)
theorem it_tup (h : EE X ρ it (TupT Ts)) : IT X ρ tg it Ts := fun F Hs H σ R E q => by
  refine RI.of (pi_tup pe_RE) ?_
  refine h F Hs H σ _ E fun v Hs1 H1 X1 hv => ?_
  obtain ⟨a, xs, rfl, ha, ht⟩ := hv
  refine ⟨a, rfl, ⟨xs, SqT.of (X1.b _ _ ha)⟩, q _ _ _ X1 fun Hs2 H2 e1 e2 i hi => ?_⟩
  have hl := ht.length
  have hS : SqT X.K H2 a xs := SqT.of (e2 _ _ (e1 _ _ ha))
  refine ⟨fun T hT => ?_, fun e => ⟨xs, hS, by omega⟩⟩
  obtain ⟨v, hv, hp⟩ := ht.at_ hT
  refine ⟨⟨xs, v, hS, hv⟩, fun x H' y => ?_⟩
  obtain ⟨rfl, y⟩ := y
  have ex := y xs hS
  rw [hv] at ex
  rw [← Option.some.inj ex]
  exact ⟨Hs2, Ext.refl e2, T.mono e1 hp⟩
theorem it_tupD (h : EE X ρ it (D (.tuple ds))) : IT X ρ tg it (ds.map D) := it_tup (h.le fun _ _ => TupT.of)
def rangeT (lo : Int) (n : Nat) : List Ty := (List.range n).map fun i => D (.int (lo + (i : Nat)))
theorem rangeT_length (lo : Int) (n : Nat) : (rangeT lo n).length = n := by unfold rangeT; rw [List.length_map, List.length_range]
theorem rangeT_at {lo : Int} {n i : Nat} (h : (rangeT lo n)[i]? = some T) : i < n ∧ T = D (.int (lo + (i : Nat))) := by
  unfold rangeT at h
  rw [List.getElem?_map] at h
  by_cases hi : i < n
  · rw [List.getElem?_range hi] at h
    exact ⟨hi, (Option.some.inj h).symm⟩
  · rw [List.getElem?_eq_none (by rw [List.length_range]; omega)] at h
    cases h
theorem good_range {lo : Int} {n : Nat} {Hs : Hp} : Good (Itr lo n) (rangeT lo n) Hs := fun Hs2 H2 e1 e2 i hi => by
  rw [rangeT_length] at hi ⊢
  refine ⟨fun T hT => ?_, fun e => Nat.le_of_eq e.symm⟩
  obtain ⟨h, rfl⟩ := rangeT_at hT
  refine ⟨h, fun x H' y => ?_⟩
  obtain ⟨rfl, rfl⟩ := y
  exact ⟨Hs2, Ext.refl e2, .int _⟩
variable {p : Pos}
theorem it_range1 {a : Expr} {n : Int} (hm : X.mg "range" = none) (h : EE X ρ a (D (.int n))) (h1 : -(2 ^ 62) ≤ n) (h2 : n < 2 ^ 62) (hg : Gl X "range" := by rfl) (hs : starEach [a] X.env = [(false, eval a X.env)] := by rfl) :
    IT X ρ tg (.Call (.Name "range" p) [a] [] pos) (rangeT 0 n.toNat) := fun F Hs H σ R E q => by
  refine RI.of (pi_range1 hg hm pa_RA hs) ?_
  refine (ea_cons h ea_nil hs) F Hs H σ _ E fun vs Hs1 H1 X1 hvs => ?_
  obtain ⟨v, rfl, hv⟩ := tys1 hvs
  exact ⟨n, by rw [dq_int hv], h1, h2, q _ _ _ X1 good_range⟩
theorem it_range2 {a b : Expr} {lo hi : Int} (hm : X.mg "range" = none) (h : EE X ρ a (D (.int lo))) (h' : EE X ρ b (D (.int hi))) (hb : -(2 ^ 62) ≤ lo ∧ lo < 2 ^ 62 ∧ -(2 ^ 62) ≤ hi ∧ hi < 2 ^ 62) (hg : Gl X "range" := by rfl)
    (hs : starEach [a, b] X.env = [(false, eval a X.env), (false, eval b X.env)] := by rfl) (hs2 : starEach [b] X.env = [(false, eval b X.env)] := by rfl) :
    IT X ρ tg (.Call (.Name "range" p) [a, b] [] pos) (rangeT lo (hi - lo).toNat) := fun F Hs H σ R E q => by
  refine RI.of (pi_range2 hg hm pa_RA hs hs2) ?_
  refine (ea_cons h (ea_cons h' ea_nil (by rw [hs2]; rfl)) (by rw [hs, hs2])) F Hs H σ _ E fun vs Hs1 H1 X1 hvs => ?_
  obtain ⟨v, w, rfl, hv, hw⟩ := tys2 hvs
  exact ⟨lo, hi, by rw [dq_int hv, dq_int hw], hb, q _ _ _ X1 good_range⟩
def enumD : Nat → List PyData → List PyData
  | _, [] => []
  | k, d :: ds => .tuple [.int (k : Nat), d] :: enumD (k + 1) ds
theorem enumD_length : ∀ (k : Nat) (ds : List PyData), (enumD k ds).length = ds.length
  | _, [] => rfl
  | k, d :: ds => congrArg Nat.succ (enumD_length (k + 1) ds)
theorem enumD_at : ∀ (k i : Nat) (ds : List PyData), (enumD k ds)[i]? = ds[i]?.map fun d => .tuple [.int ((k + i : Nat)), d]
  | _, _, [] => rfl
  | k, 0, d :: ds => rfl
  | k, i + 1, d :: ds => by
    show (enumD (k + 1) ds)[i]? = ds[i]?.map _
    rw [enumD_at (k + 1) i ds]
    rw [show k + 1 + i = k + (i + 1) by omega]
theorem it_enum {elts : List Expr} {kk : Nat} {tpos : Pos} (hm : X.mg "enumerate" = none) (h : EE X ρ e (D (.list ds))) (hg : Gl X "enumerate" := by rfl) (hs : starEach [e] X.env = [(false, eval e X.env)] := by rfl) :
    IT X ρ (.Tuple elts kk tpos) (.Call (.Name "enumerate" p) [e] [] pos) ((enumD 0 ds).map D) := fun F Hs H σ R E q => by
  refine RI.of (pi_enum hg hm pa_RA hs) ?_
  refine (ea_cons h ea_nil hs) F Hs H σ _ E fun vs Hs1 H1 X1 hvs => ?_
  obtain ⟨v, rfl, hv⟩ := tys1 hvs
  obtain ⟨a, xs, rfl, ha, hd⟩ := dq_list hv
  refine ⟨a, xs, rfl, SqL.of (X1.b _ _ ha), q _ _ _ X1 fun Hs2 H2 e1 e2 i hi => ?_⟩
  have hl := hd.length
  have hS : SqL X.K H2 a xs := SqL.of (e2 _ _ (e1 _ _ ha))
  rw [List.length_map, enumD_length] at hi ⊢
  refine ⟨fun T hT => ?_, fun e => ⟨xs, hS, by omega⟩⟩
  rw [List.getElem?_map, enumD_at] at hT
  cases hd' : ds[i]? with
  | none => rw [hd'] at hT; cases hT
  | some d =>
    rw [hd'] at hT
    have eT := (Option.some.inj hT).symm
    subst eT
    obtain ⟨x, hx, hp⟩ := hd.at_ hd'
    refine ⟨⟨xs, x, hS, hx⟩, fun y H' z => ?_⟩
    obtain ⟨t, x', rfl, ht, rfl, z⟩ := z
    have ex := z xs hS
    rw [hx] at ex
    have ex' := Option.some.inj ex
    subst ex'
    refine ⟨_, Ext.new e2 ht, ?_⟩
    refine .tup upd_same (.cons ?_ (.cons (dq_mono (e1.trans ((Same.refl _).newU (e2.free ht))) _ _ hp) .nil))
    rw [Nat.zero_add]
    exact .int _
def charsT (z : Str) : List Ty := z.cps.toList.map fun c => D (.str ⟨#[c]⟩)
theorem it_str {z : Str} (h : EE X ρ it (D (.str z))) : IT X ρ tg it (charsT z) := fun F Hs H σ R E q => by
  refine RI.of (pi_str pe_RE) ?_
  refine h F Hs H σ _ E fun v Hs1 H1 X1 hv => ⟨z, dq_str hv, q _ _ _ X1 fun Hs2 H2 e1 e2 i hi => ?_⟩
  have hl : (charsT z).length = z.cps.size := by unfold charsT; rw [List.length_map, Array.length_toList]
  rw [hl] at hi ⊢
  refine ⟨fun T hT => ?_, fun e => Nat.le_of_eq e.symm⟩
  unfold charsT at hT
  rw [List.getElem?_map, Array.getElem?_toList] at hT
  cases hc : z.cps[i]? with
  | none => rw [hc] at hT; cases hT
  | some c =>
    rw [hc] at hT
    have eT := (Option.some.inj hT).symm
    subst eT
    refine ⟨(Array.getElem?_eq_some_iff.mp hc).1, fun y H' w => ?_⟩
    obtain ⟨rfl, c', hc', rfl⟩ := w
    rw [hc] at hc'
    rw [← Option.some.inj hc']
    exact ⟨Hs2, Ext.refl e2, .str _⟩
end
/-! ### list comprehensions -/
def wipeS (ρ : List Sl) : List Nat → List Sl
  | [] => ρ
  | v :: vs => (wipeS ρ vs).set v .un
theorem wipeS_length (ρ : List Sl) : ∀ vs : List Nat, (wipeS ρ vs).length = ρ.length
  | [] => rfl
  | v :: vs => by unfold wipeS; rw [List.length_set, wipeS_length ρ vs]
theorem ER.un {ρ : List Sl} {F Hs H : Hp} {σ : L2.St} (E : ER ρ F Hs H σ) (i : Nat) (x : Option V) : ER (ρ.set i .un) F Hs H (σ.set i x) := by
  have at_ : ∀ (j : Nat) (y : Sl), y ≠ .un → (ρ.set i .un)[j]? = some y → ρ[j]? = some y ∧ (σ.set i x)[j]? = σ[j]? := fun j y hy hj => by
    by_cases e : i = j
    · subst e
      rw [List.getElem?_set] at hj
      rw [if_pos rfl] at hj
      split at hj
      · exact absurd (Option.some.inj hj).symm hy
      · cases hj
    · rw [List.getElem?_set_ne e] at hj
      exact ⟨hj, List.getElem?_set_ne e⟩
  refine ⟨E.s, E.f, by rw [List.length_set, List.length_set]; exact E.n, fun j T hj => ?_, fun j O hj => ?_, fun j k O O' p hj hk h1 h2 => ?_⟩
  · obtain ⟨a, b⟩ := at_ j _ (by intro z; cases z) hj
    rw [b]
    exact E.v j T a
  · obtain ⟨a, b⟩ := at_ j _ (by intro z; cases z) hj
    rw [b]
    exact E.o j O a
  · obtain ⟨a, b⟩ := at_ j _ (by intro z; cases z) hj
    obtain ⟨a', b'⟩ := at_ k _ (by intro z; cases z) hk
    rw [b] at h1
    rw [b'] at h2
    exact E.d j k O O' p a a' h1 h2
theorem ER.wipe {ρ : List Sl} {F Hs H : Hp} {σ : L2.St} (E : ER ρ F Hs H σ) : ∀ vs : List Nat, ER (wipeS ρ vs) F Hs H (L2.wipe σ vs)
  | [] => E
  | v :: vs => (ER.wipe E vs).un v none
theorem wipe_at {σ : L2.St} : ∀ (vs : List Nat) (i : Nat), (L2.wipe σ vs)[i]? = if i ∈ vs then (σ[i]?).map (fun _ => none) else σ[i]?
  | [], i => by rw [if_neg (List.not_mem_nil)]; rfl
  | v :: vs, i => by
    show ((L2.wipe σ vs).set v none)[i]? = _
    rw [List.getElem?_set]
    by_cases e : v = i
    · subst e
      rw [if_pos rfl, if_pos List.mem_cons_self, L2.wipe_length]
      by_cases h : v < σ.length
      · rw [if_pos h, List.getElem?_eq_getElem h]
        rfl
      · rw [if_neg h, List.getElem?_eq_none (by omega)]
        rfl
    · rw [if_neg e, wipe_at vs i]
      by_cases h : i ∈ vs
      · rw [if_pos h, if_pos (List.mem_cons_of_mem _ h)]
      · rw [if_neg h, if_neg (fun z => by
          rcases List.mem_cons.mp z with z | z
          · exact e z.symm
          · exact h z)]
theorem wipe_eq {σ τ : L2.St} {vs : List Nat} (hl : σ.length = τ.length) (h : ∀ i, i ∉ vs → τ[i]? = (L2.wipe σ vs)[i]?) : L2.wipe τ vs = L2.wipe σ vs := by
  refine List.ext_getElem? fun i => ?_
  rw [wipe_at, wipe_at]
  by_cases hi : i ∈ vs
  · rw [if_pos hi, if_pos hi]
    by_cases hk : i < σ.length
    · rw [List.getElem?_eq_getElem hk, List.getElem?_eq_getElem (by omega)]
      rfl
    · rw [List.getElem?_eq_none (by omega), List.getElem?_eq_none (by omega)]
  · rw [if_neg hi, if_neg hi, h i hi, wipe_at, if_neg hi]
def ETs (X : Cx) (ρ : List Sl) (ifs : List Expr) (b : Bool) : Prop := (ifs = [] ∧ b = true) ∨ ∃ c, ifs = [c] ∧ ET X ρ c b
theorem ets_nil {X : Cx} {ρ : List Sl} : ETs X ρ [] true := .inl ⟨rfl, rfl⟩
theorem ets_one {X : Cx} {ρ : List Sl} {c : Expr} {b : Bool} (h : ET X ρ c b) : ETs X ρ [c] b := .inr ⟨c, rfl, h⟩
abbrev blkX (X : Cx) (scope : Scope) (s : Shared) (H : Hp) (C : Addr) (cl : List (Str × Addr)) (fp : List Addr) : Cx := X.blk s H scope (compEnvC scope cl C X.env) fp
/-- the widest test of a comprehension's block -/
def RTs (X : Cx) (scope : Scope) (ifs : List Expr) : TT := match ifs with
  | [] => tYes
  | [c] => fun σ H Q => ∀ s H0 C cl fp, RT (blkX X scope s H0 C cl fp) c σ H Q
  | _ => fun _ _ _ => False
section
variable {X : Cx} {ρ : List Sl} {elt tg it : Expr} {ifs : List Expr} {scope : Scope} {own : List (Str × Nat)} {pos : Pos} {js : List Nat}
theorem pts_RTs {s : Shared} {H : Hp} {C : Addr} {cl : List (Str × Addr)} {fp : List Addr} : PTs (blkX X scope s H C cl fp) ifs (RTs X scope ifs) := by
  match ifs with
  | [] => exact pts_nil
  | [c] => exact pts_one ⟨fun pins s' σ H' Q I h => h s H C cl fp pins s' I⟩
  | a :: b :: r => exact ⟨fun pins s' σ H' Q I h => h.elim⟩
/-- a turn of the comprehension on an item of kind T: the item left out (none), or kept as d -/
structure Turn1 (X : Cx) (ρ : List Sl) (scope : Scope) (tg elt : Expr) (ifs : List Expr) (vs : List Nat) (T : Ty) (o : Option PyData) : Prop where
  run : ∃ (ρ' : List Sl) (js : List Nat) (b : Bool), (∀ j ∈ js, j ∈ vs) ∧ (∀ s H C cl fp, GG (blkX X scope s H C cl fp) (wipeS ρ vs) tg T ρ' js) ∧ (∀ s H C cl fp, ETs (blkX X scope s H C cl fp) ρ' ifs b) ∧
    (b = false → o = none) ∧ (b = true → ∃ d, o = some d ∧ ∀ s H C cl fp, EE (blkX X scope s H C cl fp) ρ' elt (D d))
theorem Ext.mutO {Hs H Hs' H' : Hp} {p : Addr} {o : HO} (x : Ext Hs H Hs' H') (hp : H p = none) (hn : Hs' p = none) : Ext Hs H Hs' (upd H' p o) :=
  ⟨x.a, x.b.newU hn, fun q u e g => by
    have n : q ≠ p := ne_of_none e hp
    rw [upd_ne n]
    exact x.c q u e g⟩
theorem RTs.run {b : Bool} {F Hs H : Hp} {σ : L2.St} {Q : Bool → Hp → Prop} (s0 : Shared) (H0 : Hp) (C0 : Addr) (cl0 : List (Str × Addr)) (fp0 : List Addr) (h : ∀ s H C cl fp, ETs (blkX X scope s H C cl fp) ρ ifs b) (E : ER ρ F Hs H σ)
    (q : ∀ Hs' H', Ext Hs H Hs' H' → Q b H') : RTs X scope ifs σ H Q := by
  rcases h s0 H0 C0 cl0 fp0 with ⟨e1, e2⟩ | ⟨c, e1, _⟩
  · subst e1 e2
    exact q _ _ (Ext.refl E.s)
  · subst e1
    intro s H' C cl fp
    rcases h s H' C cl fp with ⟨e1, _⟩ | ⟨c', e1, g⟩
    · cases e1
    · injection e1 with e1
      subst e1
      exact g F Hs H σ Q E q
def rgB (X : Cx) (scope : Scope) (tg : Expr) : TG := fun v σ H' Q => ∀ s H0 C cl fp, RG (blkX X scope s H0 C cl fp) tg v σ H' Q
def reB (X : Cx) (scope : Scope) (elt : Expr) : TE := fun σ H' Q => ∀ s H0 C cl fp, RE (blkX X scope s H0 C cl fp) elt σ H' Q
theorem pg_rgB (s : Shared) (H : Hp) (C : Addr) (cl : List (Str × Addr)) (fp : List Addr) : PG (blkX X scope s H C cl fp) tg (rgB X scope tg) := ⟨fun pins s' σ H' v u Q I r h => h s H C cl fp pins s' u I r⟩
theorem pe_reB (s : Shared) (H : Hp) (C : Addr) (cl : List (Str × Addr)) (fp : List Addr) : PE (blkX X scope s H C cl fp) elt (reB X scope elt) := ⟨fun pins s' σ H' Q I h => h s H C cl fp pins s' I⟩
theorem lc_run {Ts : List Ty} {os : List (Option PyData)} {vs : List Nat} (hi : IT X ρ tg it Ts) (hl : os.length = Ts.length) (hz : Ts.length ≤ 100000)
    (step : ∀ (i : Nat) (T : Ty) (o : Option PyData), Ts[i]? = some T → os[i]? = some o → Turn1 X ρ scope tg elt ifs vs T o) {F Hs H : Hp} {σ : L2.St} {Q : VK} (E : ER ρ F Hs H σ)
    (q : ∀ p u Hs' H', Ext Hs H Hs' H' → H p = none → Hs' p = none → H' p = some u → (OwnL (os.filterMap _root_.id)).p Hs' p u → Q (.ref p) H') :
    tLc (RI X tg it) (rgB X scope tg) (RTs X scope ifs) (reB X scope elt) vs σ H Q := by
  refine hi F Hs H σ _ E fun J Hs1 H1 X1 G => ?_
  intro Dd hD
  have E1 := E.ext X1
  have hF : F Dd = none := by
    cases h : F Dd with
    | none => rfl
    | some u => exact absurd ((E1.f _ _ h).2.symm.trans hD) (by intro z; cases z)
  have hns : Hs1 Dd = none := E1.s.free hD
  have hH0 : H Dd = none := X1.free E.s hD
  -- the invariant
  refine ⟨fun i m H2 => m = Ts.length - i ∧ i ≤ Ts.length ∧ ∃ Hs2 xs, Ext Hs1 H1 Hs2 H2 ∧ Hs2 Dd = none ∧ H2 Dd = some (.lst xs) ∧ DqAll Hs2 xs ((os.take i).filterMap _root_.id), ⟨_, rfl, Nat.zero_le _, Hs1, [], Ext.newO E1.s hD, hns, upd_same, .nil⟩, ?_⟩
  rintro i m H2 ⟨rfl, hil, Hs2, xs, X2, hn2, hd2, hx2⟩
  have good := G Hs2 H2 X2.a X2.b i hil
  by_cases hlt : i < Ts.length
  · refine .inr ?_
    obtain ⟨T, hT⟩ : ∃ T, Ts[i]? = some T := ⟨_, List.getElem?_eq_getElem hlt⟩
    obtain ⟨o, ho⟩ : ∃ o, os[i]? = some o := ⟨_, List.getElem?_eq_getElem (by omega)⟩
    obtain ⟨go, yld⟩ := good.1 T hT
    refine ⟨go, fun H' => ∃ Hs3 ys, Ext Hs1 H1 Hs3 H' ∧ Hs3 Dd = none ∧ H' Dd = some (.lst ys) ∧ DqAll Hs3 ys ((os.take (i + 1)).filterMap _root_.id), fun H' ⟨Hs3, ys, h1, h2, h3, h4⟩ => ⟨_, by omega, rfl, by omega, Hs3, ys, h1, h2, h3, h4⟩, fun x H' y => ?_⟩
    obtain ⟨Hs3, X3, hx⟩ := yld x H' y
    obtain ⟨ρ', js, b, hjs, gg, et, hb0, hb1⟩ := (step i T o hT ho).run
    intro s0 Hz C cl fp
    have E3 : ER (wipeS ρ vs) F Hs3 H' (L2.wipe σ vs) := ((E1.ext X2).ext X3).wipe _
    refine gg s0 Hz C cl fp F Hs3 H' _ x _ E3 hx fun σ2 E4 hlen ch => ?_
    obtain ⟨hd3, hn3⟩ := X3.cl _ _ hd2 hn2
    have ht : (os.take (i + 1)).filterMap _root_.id = (os.take i).filterMap _root_.id ++ o.toList := by
      rw [List.take_succ, ho, List.filterMap_append]
      cases o <;> rfl
    have hxl : xs.length ≤ 100000 := by
      rw [hx2.length]
      refine Nat.le_trans (List.length_filterMap_le ..) ?_
      rw [List.length_take]
      omega
    refine ⟨wipe_eq (by rw [hlen, L2.wipe_length]) fun j hj => ch j fun z => hj (hjs j z), ?_⟩
    refine RTs.run s0 Hz C cl fp et E4 fun Hs4 H4 X4 => ?_
    obtain ⟨hd4, hn4⟩ := X4.cl _ _ hd3 hn3
    cases b with
    | false =>
      have eo := hb0 rfl
      subst eo
      refine iteF ⟨Hs4, xs, (X2.trans X3).trans X4, hn4, hd4, ?_⟩
      rw [ht]
      show DqAll Hs4 xs (_ ++ [])
      rw [List.append_nil]
      exact dqs_mono (X3.a.trans X4.a) _ _ hx2
    | true =>
      refine iteT ?_
      obtain ⟨d, eo, ee⟩ := hb1 rfl
      subst eo
      intro s1 Hy C1 cl1 fp1
      refine ee s1 Hy C1 cl1 fp1 F Hs4 H4 _ _ (E4.ext X4) fun y Hs5 H5 X5 hy => ?_
      obtain ⟨hd5, hn5⟩ := X5.cl _ _ hd4 hn4
      refine ⟨xs, hd5, Nat.lt_of_le_of_lt hxl (by decide), Hs5, xs ++ [y], (((X2.trans X3).trans X4).trans X5).mutO hD hn5, hn5, upd_same, ?_⟩
      rw [ht]
      exact (dqs_mono ((X3.a.trans X4.a).trans X5.a) _ _ hx2).append (.cons hy .nil)
  · have e : i = Ts.length := by omega
    subst e
    refine .inl ⟨good.2 rfl, ?_⟩
    rw [← hl, List.take_length] at hx2
    refine q Dd _ Hs2 H2 (X1.trans X2) hH0 hn2 hd2 ⟨xs, rfl, hx2⟩
theorem eo_lc {Ts : List Ty} {os : List (Option PyData)} (hc : X.calm = true) (hN : X.N.Nodup) (hi : IT X ρ tg it Ts) (ok : BlkOk X.N X.env.scope scope own) (hl : os.length = Ts.length) (hz : Ts.length ≤ 100000)
    (step : ∀ (i : Nat) (T : Ty) (o : Option PyData), Ts[i]? = some T → os[i]? = some o → Turn1 X ρ scope tg elt ifs (own.map (·.2)) T o) (hs : ∀ x, foldedSetIterable it X.env x = pure x := by intro _; rfl) :
    EO X ρ (.ListComp elt [⟨tg, it, ifs, 0⟩] scope pos) (OwnL (os.filterMap _root_.id)) := fun F Hs H σ Q E q => RE.of (pe_lc hc hN pi_RI ok pg_rgB (fun s H C cl fp => pts_RTs) pe_reB hs) (lc_run hi hl hz step E q)
end
end DL

set_option Elab.async false
set_option linter.all false
set_option maxRecDepth 100000
set_option maxHeartbeats 4000000
namespace DL
open PySem PySem.Spec PyProof.Rows L2
/-! ### promises by kinds -/
def spS (S : List Ty → Ty → Prop) : Sp := fun vs H Q _ => ∃ (Ts : List Ty) (T : Ty) (Hs : Hp), S Ts T ∧ Same Hs H ∧ Tys Hs Ts vs ∧ ∀ v Hs' H', Ext Hs H Hs' H' → T.p Hs' v → Q v H'
/-- the def by the name x keeps S, by level k -/
structure Fn (P : Program) (w : World) (K : PySem.W.Frag) (mg : Str → Option Value) (base : Heap) (k : Nat) (x : Str) (S : List Ty → Ty → Prop) : Prop where
  ex : ∃ (f : Addr) (fd : FuncData) (ps : List Str), FnOk P w K mg base CX0 k f fd ps (spS S) ∧ mg x = some (.ref f) ∧ PySem.W.keepIn K (.ref f) = true ∧ Binds K fd ps []
/-- the method m of the class at C -/
structure Me (P : Program) (w : World) (K : PySem.W.Frag) (mg : Str → Option Value) (base : Heap) (k : Nat) (C : Addr) (m : Str) (S : List Ty → Ty → Prop) : Prop where
  ex : ∃ (f : Addr) (fd : FuncData) (ps : List Str), FnOk P w K mg base CX0 k f fd ps (spS S) ∧ Meth K C m f ∧ Binds K fd ps []
  cl : Cls K C
/-- an instance of C without a field m -/
def InsOf (C : Addr) (m : Str) (T : Ty) : Prop := ∀ H v, T.p H v → ∃ a dx fs, v = .ref a ∧ H a = some (.ins C dx fs) ∧ fs.lookup m = none
section
variable {X : Cx} {ρ : List Sl} {e o : Expr} {es : List Expr} {T T0 : Ty} {Ts : List Ty} {S : List Ty → Ty → Prop} {k : Nat} {x m : Str} {p pos apos : Pos} {C : Addr}
theorem ee_call (G : Fn X.prog X.w X.K X.mg X.base k x S) (hr : Room k X.A) (ha : EA X ρ (e :: es) Ts) (hS : S Ts T) (hg : Gl X x := by rfl) (hdb : (x == ("__debug__" : Str)) = false := by decide)
    (he : starEach (e :: es) X.env = (false, eval e X.env) :: starEach es X.env := by rfl) (hpl : (backTo pos (starEach es X.env)).any (·.1) = false := by rfl) : EE X ρ (.Call (.Name x p) (e :: es) [] pos) T := fun F Hs H σ Q E q => by
  obtain ⟨f, fd, ps, G, hm, hk, hb⟩ := G.ex
  refine RE.of (pe_call G hr hg hm hk hb .nil pass0 pa_RA hdb he hpl) ?_
  refine ha F Hs H σ _ E fun vs Hs1 H1 X1 hvs => ?_
  show spS S (vs ++ []) H1 Q _
  rw [List.append_nil]
  exact ⟨Ts, T, Hs1, hS, X1.b, hvs, fun v Hs2 H2 X2 hv => q v _ _ (X1.trans X2) hv⟩
theorem ee_meth {pl : Sem Bool} (G : Me X.prog X.w X.K X.mg X.base k C m S) (hr : Room k X.A) (ho : EE X ρ o T0) (h0 : InsOf C m T0) (ha : EA X ρ (e :: es) Ts) (hS : S (T0 :: Ts) T)
    (hst : starEach (e :: es) X.env = (false, eval e X.env) :: starEach es X.env := by rfl) (hpl : (backTo pos (starEach es X.env)).any (·.1) = false := by rfl)
    (ht : eval (.Call (.Attribute o m apos) (e :: es) [] pos) X.env = (do
      let ov ← eval o X.env
      standAt apos.atName
      let (f, first) ← holding [ov] (getMethod ov m pl)
      callWith pos f first (backTo pos (starEach (e :: es) X.env)) (backToKw pos (keywordEach [] X.env))) := by rfl) : EE X ρ (.Call (.Attribute o m apos) (e :: es) [] pos) T := fun F Hs H σ Q E q => by
  obtain ⟨f, fd, ps, G', hm, hb⟩ := G.ex
  refine RE.of (pe_meth pe_RE G.cl hm G' hr hb .nil pass0 pa_RA hst hpl ht) ?_
  refine ho F Hs H σ _ E fun v Hs1 H1 X1 hv => ?_
  obtain ⟨a, dx, fs, rfl, hA, hl⟩ := h0 _ _ hv
  refine ⟨a, dx, fs, rfl, X1.b _ _ hA, hl, ?_⟩
  refine ha F Hs1 H1 σ _ (E.ext X1) fun vs Hs2 H2 X2 hvs => ?_
  show spS S (.ref a :: (vs ++ [])) H2 Q _
  rw [List.append_nil]
  exact ⟨T0 :: Ts, T, Hs2, hS, X2.b, .cons (T0.mono X2.a hv) hvs, fun v Hs3 H3 X3 hv => q v _ _ ((X1.trans X2).trans X3) hv⟩
theorem ee_meth0 {pl : Sem Bool} (G : Me X.prog X.w X.K X.mg X.base k C m S) (hr : Room k X.A) (ho : EE X ρ o T0) (h0 : InsOf C m T0) (hS : S [T0] T)
    (ht : eval (.Call (.Attribute o m apos) [] [] pos) X.env = (do
      let ov ← eval o X.env
      standAt apos.atName
      let (f, first) ← holding [ov] (getMethod ov m pl)
      callWith pos f first (backTo pos (starEach [] X.env)) (backToKw pos (keywordEach [] X.env))) := by rfl) : EE X ρ (.Call (.Attribute o m apos) [] [] pos) T := fun F Hs H σ Q E q => by
  obtain ⟨f, fd, ps, G', hm, hb⟩ := G.ex
  refine RE.of (pe_meth0 (E := E0) pe_RE G.cl hm G' hr hb .nil pass0 ht) ?_
  refine ho F Hs H σ _ E fun v Hs1 H1 X1 hv => ?_
  obtain ⟨a, dx, fs, rfl, hA, hl⟩ := h0 _ _ hv
  refine ⟨a, dx, fs, rfl, X1.b _ _ hA, hl, ?_⟩
  show spS S (.ref a :: ([] ++ [])) H1 Q E0
  exact ⟨[T0], T, Hs1, hS, X1.b, .cons hv .nil, fun v Hs3 H3 X3 hv => q v _ _ (X1.trans X3) hv⟩
/-- e.f, a field -/
theorem ee_fld {f : Str} (ho : EE X ρ o T0) (h0 : ∀ H v, T0.p H v → ∃ a C dx fs w, v = .ref a ∧ H a = some (.ins C dx fs) ∧ Cls X.K C ∧ NoAttr X.K C f ∧ fs.lookup f = some w ∧ T.p H w)
    (hb : attributeBase o f X.env (eval o X.env) = eval o X.env := by rfl) : EE X ρ (.Attribute o f pos) T := fun F Hs H σ Q E q => by
  refine RE.of (pe_fld pe_RE hb) ?_
  refine ho F Hs H σ _ E fun v Hs1 H1 X1 hv => ?_
  obtain ⟨a, C, dx, fs, w, rfl, hA, hc, hn, hl, hw⟩ := h0 _ _ hv
  exact ⟨a, C, dx, fs, w, rfl, X1.b _ _ hA, hc, hn, hl, q _ _ _ X1 hw⟩
/-- C(e, ..) -/
theorem ee_make {f : Addr} {fd : FuncData} {ps : List Str} {sp : Sp} (M : Mk X.K C f) (F : FnOk X.prog X.w X.K X.mg X.base CX0 k f fd ps sp) (hr : Room (k + 1) X.A) (hm : X.mg x = some (.ref C)) (hb : Binds X.K fd ps []) (ha : EA X ρ (e :: es) Ts)
    (hS : ∀ Hs H vs (Q : VK), Same Hs H → Tys Hs Ts vs → (∀ z Hs' H', Ext Hs H Hs' H' → T.p Hs' z → Q z H') → ∀ x dx, H x = none → H dx = none → dx ≠ x → sp (.ref x :: vs) (upd (upd H dx (.own x)) x (.ins C dx [])) (fun v H2 => v = .non ∧ Q (.ref x) H2) E0)
    (hg : Gl X x := by rfl) (hdb : (x == ("__debug__" : Str)) = false := by decide) (he : starEach (e :: es) X.env = (false, eval e X.env) :: starEach es X.env := by rfl) (hpl : (backTo pos (starEach es X.env)).any (·.1) = false := by rfl) :
    EE X ρ (.Call (.Name x p) (e :: es) [] pos) T := fun F' Hs H σ Q E q => by
  refine RE.of (pe_make M F hr hg hm hb .nil pass0 pa_RA hdb he hpl) ?_
  refine ha F' Hs H σ _ E fun vs Hs1 H1 X1 hvs => ?_
  intro x dx h1 h2 h3
  rw [List.append_nil]
  exact hS Hs1 H1 vs Q X1.b hvs (fun z Hs2 H2 X2 hz => q _ _ _ (X1.trans X2) hz) x dx h1 h2 h3
end

/-! ### statements -/
structure En where
  nx : List Sl → Prop
  rt : Ty
  bk : List Sl → Prop := fun _ => False
  ct : List Sl → Prop := fun _ => False
  er : Value → Prop := fun _ => False
  ro : Ow → Prop := fun _ => False
structure Go (E : En) (W : WX) (F Hs : Hp) (D : Ends) : Prop where
  nx : ∀ ρ' Hs' H' σ', E.nx ρ' → Same Hs Hs' → ER ρ' F Hs' H' σ' → D.nx σ' H'
  rt : ∀ v Hs' H', Same Hs Hs' → Same Hs' H' → (∀ p u, F p = some u → (Hs' p = none ∨ IsT u) ∧ H' p = some u) → E.rt.p Hs' v → D.rt v H'
  bk : ∀ ρ' Hs' H' σ', E.bk ρ' → Same Hs Hs' → ER ρ' F Hs' H' σ' → D.bk σ' H'
  ct : ∀ ρ' Hs' H' σ', E.ct ρ' → Same Hs Hs' → ER ρ' F Hs' H' σ' → D.ct σ' H'
  er : ∀ c Hs' H' σ', E.er c → Same Hs Hs' → Same Hs' H' → (∀ p u, F p = some u → (Hs' p = none ∨ IsT u) ∧ H' p = some u) → W c none σ' H'
  ro : ∀ O p u Hs' H', E.ro O → Same Hs Hs' → Same Hs' H' → (∀ p u, F p = some u → (Hs' p = none ∨ IsT u) ∧ H' p = some u) → Hs' p = none → F p = none → H' p = some u → O.p Hs' p u → D.rt (.ref p) H'
theorem Go.mono {E : En} {W : WX} {F Hs Hs1 : Hp} {D : Ends} (g : Go E W F Hs D) (s : Same Hs Hs1) : Go E W F Hs1 D :=
  ⟨fun a b c d h e => g.nx a b c d h (s.trans e), fun a b c e => g.rt a b c (s.trans e), fun a b c d h e => g.bk a b c d h (s.trans e), fun a b c d h e => g.ct a b c d h (s.trans e), fun a b c d h e => g.er a b c d h (s.trans e), fun a b c d e h z => g.ro a b c d e h (s.trans z)⟩
def BB (X : Cx) (ρ : List Sl) (sts : List Stmt) (E : En) : Prop := ∀ (W : WX) (F Hs H : Hp) (σ : L2.St) (D : Ends), Takes X W → ER ρ F Hs H σ → Go E W F Hs D → RSs X sts D σ H
section
variable {X : Cx} {ρ ρ' : List Sl} {e c tg it : Expr} {rest body els : List Stmt} {T : Ty} {Ts : List Ty} {O : Ow} {E : En} {pos pos' : Pos} {x : Str} {b : Bool} {d : PyData} {ds es : List PyData} {P : PyData → Prop}
theorem bb_nil (h : E.nx ρ) : BB X ρ [] E := fun W F Hs H σ D tk ER1 g => RSs.of pss_nil (g.nx _ _ _ _ h (Same.refl _) ER1)
theorem BB.to {E' : En} (h : BB X ρ body E) (l : ∀ W F Hs D, Go E' W F Hs D → Go E W F Hs D) : BB X ρ body E' := fun W F Hs H σ D tk ER1 g => h W F Hs H σ D tk ER1 (l _ _ _ _ g)
/-- ghost steps -/
theorem bb_freeze (i : Nat) (hi : ρ[i]? = some (.ow O)) (hT : ∀ Hs p u, Hs p = none → O.p Hs p u → T.p (upd Hs p u) (.ref p)) (h : BB X (ρ.set i (.va T)) rest E) : BB X ρ rest E := fun W F Hs H σ D tk ER1 g => by
  obtain ⟨Hs', s, E'⟩ := ER1.freeze hi hT
  exact h W F Hs' H σ D tk E' (g.mono s)
theorem bb_fixL (i : Nat) (hi : ρ[i]? = some (.ow (OwnL ds))) (h : BB X (ρ.set i (.va (D (.list ds)))) rest E) : BB X ρ rest E := bb_freeze i hi ownL_fix h
theorem bb_weak (i : Nat) {T' : Ty} (hi : ρ[i]? = some (.va T)) (l : ∀ H v, T.p H v → T'.p H v) (h : BB X (ρ.set i (.va T')) rest E) : BB X ρ rest E := fun W F Hs H σ D tk ER1 g => by
  obtain ⟨v, h1, h2⟩ := ER1.v i T hi
  have E' := ER1.set i (T := T') (v := v) (l _ _ h2)
  have e : σ.set i (some v) = σ := by
    refine List.ext_getElem? fun j => ?_
    by_cases q : i = j
    · subst q
      rw [List.getElem?_set_self (ER1.lt hi), h1]
    · rw [List.getElem?_set_ne q]
  rw [e] at E'
  exact h W F Hs H σ D tk E' g
theorem bb_open (i : Nat) (hi : ρ[i]? = some (.va (Ex P))) (h : ∀ d, P d → BB X (ρ.set i (.va (DL.D d))) rest E) : BB X ρ rest E := fun W F Hs H σ D tk ER1 g => by
  obtain ⟨v, h1, d, hd, h2⟩ := ER1.v i _ hi
  have E' := ER1.set i (T := DL.D d) (v := v) h2
  have e : σ.set i (some v) = σ := by
    refine List.ext_getElem? fun j => ?_
    by_cases q : i = j
    · subst q
      rw [List.getElem?_set_self (ER1.lt hi), h1]
    · rw [List.getElem?_set_ne q]
  rw [e] at E'
  exact h d hd W F Hs H σ D tk E' g
/-- stores -/
theorem bb_set (i : Nat) (hN : X.N.Nodup) (hi : X.N[i]? = some x) (hx : Loc X.env.scope x) (he : EE X ρ e T) (h : BB X (ρ.set i (.va T)) rest E) (hs : swapsWith e (some (.Name x pos')) pos.line X.env = pure false := by rfl)
    (hf : X.fn x = true ∨ X.env.scope.names.lookup x = some .local := by first | exact .inl rfl | exact .inr rfl | assumption) : BB X ρ (.Assign [.Name x pos'] e pos :: rest) E := fun W F Hs H σ D tk ER1 g => by
  refine RSs.cons (ps_set hN hi hx pe_RE hs hf) ?_
  exact he F Hs H σ _ ER1 fun v Hs1 H1 X1 hv => h W F Hs1 H1 _ D tk ((ER1.ext X1).set i hv) (g.mono X1.a)
theorem bb_setX (i : Nat) (hN : X.N.Nodup) (hi : X.N[i]? = some x) (hx : Loc X.env.scope x) (he : EE X ρ e (Ex P)) (h : ∀ d, P d → BB X (ρ.set i (.va (DL.D d))) rest E) (hs : swapsWith e (some (.Name x pos')) pos.line X.env = pure false := by rfl)
    (hf : X.fn x = true ∨ X.env.scope.names.lookup x = some .local := by first | exact .inl rfl | exact .inr rfl | assumption) : BB X ρ (.Assign [.Name x pos'] e pos :: rest) E := fun W F Hs H σ D tk ER1 g => by
  refine RSs.cons (ps_set hN hi hx pe_RE hs hf) ?_
  exact he F Hs H σ _ ER1 fun v Hs1 H1 X1 ⟨d, hd, hv⟩ => h d hd W F Hs1 H1 _ D tk ((ER1.ext X1).set i (T := DL.D d) hv) (g.mono X1.a)
theorem ER.notOwn {ρ : List Sl} {F Hs H : Hp} {σ : L2.St} (E : ER ρ F Hs H σ) {p : Addr} (hp : H p = none) (j : Nat) (O : Ow) (h : ρ[j]? = some (.ow O)) : σ[j]? ≠ some (some (.ref p)) := fun z => by
  obtain ⟨q, u, h1, _, _, h2, _⟩ := E.o j O h
  rw [z] at h1
  injection h1 with h1
  injection h1 with h1
  injection h1 with h1
  subst h1
  rw [hp] at h2
  cases h2
theorem ER.notF {ρ : List Sl} {F Hs H : Hp} {σ : L2.St} (E : ER ρ F Hs H σ) {p : Addr} (hp : H p = none) : F p = none := by
  cases h : F p with
  | none => rfl
  | some u =>
    have := (E.f p u h).2
    rw [hp] at this
    cases this
theorem bb_setO (i : Nat) (hN : X.N.Nodup) (hi : X.N[i]? = some x) (hx : Loc X.env.scope x) (he : EO X ρ e O) (h : BB X (ρ.set i (.ow O)) rest E) (hs : swapsWith e (some (.Name x pos')) pos.line X.env = pure false := by rfl)
    (hf : X.fn x = true ∨ X.env.scope.names.lookup x = some .local := by first | exact .inl rfl | exact .inr rfl | assumption) : BB X ρ (.Assign [.Name x pos'] e pos :: rest) E := fun W F Hs H σ D tk ER1 g => by
  refine RSs.cons (ps_set hN hi hx pe_RE hs hf) ?_
  refine he F Hs H σ _ ER1 fun p u Hs1 H1 X1 h1 h2 h3 h4 => ?_
  exact h W F Hs1 H1 _ D tk ((ER1.ext X1).setO i h2 (ER1.notF h1) h3 h4 fun j O' _ hj => ER1.notOwn h1 j O' hj) (g.mono X1.a)
/-- name = [.. for ..] on one line (the model stores it within the block) -/
theorem bb_setLc (i : Nat) {elt tg it : Expr} {ifs : List Expr} {scope : Scope} {own : List (Str × Nat)} {Ts : List Ty} {os : List (Option PyData)} {lpos : Pos} (hc : X.calm = true) (hN : X.N.Nodup) (hi : X.N[i]? = some x) (hyl : X.env.scope.names.lookup x = some .local)
    (hsw : swapsWith (.ListComp elt [⟨tg, it, ifs, 0⟩] scope lpos) (some (.Name x pos')) pos.line X.env = pure true) (hit : IT X ρ tg it Ts) (ok : BlkOk X.N X.env.scope scope own) (hl : os.length = Ts.length) (hz : Ts.length ≤ 100000)
    (step : ∀ (i : Nat) (T : Ty) (o : Option PyData), Ts[i]? = some T → os[i]? = some o → Turn1 X ρ scope tg elt ifs (own.map (·.2)) T o) (h : BB X (ρ.set i (.ow (OwnL (os.filterMap _root_.id)))) rest E) (hs : ∀ x, foldedSetIterable it X.env x = pure x := by intro _; rfl) :
    BB X ρ (.Assign [.Name x pos'] (.ListComp elt [⟨tg, it, ifs, 0⟩] scope lpos) pos :: rest) E := fun W F Hs H σ D tk ER1 g => by
  refine RSs.cons (ps_setLc hc hN hi hyl hsw pi_RI ok pg_rgB (fun s H C cl fp => pts_RTs) pe_reB hs) ?_
  refine lc_run hit hl hz step ER1 fun p u Hs1 H1 X1 h1 h2 h3 h4 => ?_
  exact h W F Hs1 H1 _ D tk ((ER1.ext X1).setO i h2 (ER1.notF h1) h3 h4 fun j O' _ hj => ER1.notOwn h1 j O' hj) (g.mono X1.a)
theorem bb_asg {js : List Nat} (he : EE X ρ e T) (hg : GG X ρ tg T ρ' js) (h : BB X ρ' rest E) (hs : swapsWithSole [tg] e pos.line X.env = pure false := by rfl) (hw : swappedStores [tg] e X.env = pure none := by rfl)
    (h1 : (assignEach [tg] X.env).map (·.2) = [assign tg X.env] := by rfl) : BB X ρ (.Assign [tg] e pos :: rest) E := fun W F Hs H σ D tk ER1 g => by
  refine RSs.cons (ps_asg pe_RE pg_RG hs hw h1) ?_
  refine he F Hs H σ _ ER1 fun v Hs1 H1 X1 hv => ?_
  exact hg F Hs1 H1 σ v _ (ER1.ext X1) hv fun σ' E' _ _ => h W F Hs1 H1 σ' D tk E' (g.mono X1.a)
theorem bb_aug (i : Nat) {op : Operator} {r : R2} {A B : Ty} (ho : PIp X op r) (hN : X.N.Nodup) (hi : X.N[i]? = some x) (hx : Loc X.env.scope x) (hv : ρ[i]? = some (.va A)) (he : EE X ρ e B) (hr : R2V r A B T) (h : BB X (ρ.set i (.va T)) rest E)
    (hf : X.fn x = true ∨ X.env.scope.names.lookup x = some .local := by first | exact .inl rfl | exact .inr rfl | assumption) : BB X ρ (.AugAssign (.Name x pos') op e pos :: rest) E := fun W F Hs H σ D tk ER1 g => by
  refine RSs.cons (ps_aug hN hi hx pe_RE ho hf) ?_
  obtain ⟨v, h1, h2⟩ := ER1.v i A hv
  refine ⟨v, h1, ?_⟩
  refine he F Hs H σ _ ER1 fun y Hs1 H1 X1 hy => ?_
  refine hr Hs1 H1 v y _ X1.b (A.mono X1.a h2) hy fun z Hs2 H2 X2 hz => ?_
  exact h W F Hs2 H2 _ D tk (((ER1.ext X1).ext X2).set i hz) (g.mono (X1.a.trans X2.a))
theorem bb_expr (he : EE X ρ e T) (h : BB X ρ rest E) (hs : swapsWith e none pos.line X.env = pure false := by rfl) : BB X ρ (.Expr e pos :: rest) E := fun W F Hs H σ D tk ER1 g => by
  refine RSs.cons (ps_expr pe_RE hs) ?_
  exact he F Hs H σ _ ER1 fun v Hs1 H1 X1 hv => h W F Hs1 H1 σ D tk (ER1.ext X1) (g.mono X1.a)
theorem bb_ret (he : EE X ρ e E.rt) : BB X ρ (.Return (some e) pos :: rest) E := fun W F Hs H σ D tk ER1 g => by
  refine RSs.cons (ps_ret pe_RE) ?_
  exact he F Hs H σ _ ER1 fun v Hs1 H1 X1 hv => g.rt v Hs1 H1 X1.a X1.b (ER1.ext X1).f hv
/-- return of an own object -/
theorem bb_retO (i : Nat) {nm : Str} {npos : Pos} (hO : ρ[i]? = some (.ow O)) (he : E.ro O) (hN : X.N[i]? = some nm := by rfl) (hv : Vis X.env.scope nm := by first | exact Or.inl rfl | exact Or.inr (Or.inl rfl) | exact Or.inr (Or.inr rfl))
    (hd : (nm == ("__debug__" : Str)) = false := by decide) (hcd : (nm == ("__classdict__" : Str)) = false := by decide) : BB X ρ (.Return (some (.Name nm npos)) pos :: rest) E := fun W F Hs H σ D tk ER1 g => by
  refine RSs.cons (ps_ret (pe_var hN hv hd hcd)) ?_
  obtain ⟨p, u, h1, h2, h3, h4, h5⟩ := ER1.o i _ hO
  exact ⟨.ref p, h1, g.ro O p u Hs H he (Same.refl _) ER1.s ER1.f h2 h3 h4 h5⟩
theorem bb_if (hc : ET X ρ c b) (h1 : b = true → BB X ρ body { E with nx := fun ρ' => BB X ρ' rest E }) (h2 : b = false → BB X ρ els { E with nx := fun ρ' => BB X ρ' rest E }) : BB X ρ (.If c body els pos :: rest) E := fun W F Hs H σ D tk ER1 g => by
  refine RSs.cons (ps_if pt_RT pss_RSs pss_RSs) ?_
  refine hc F Hs H σ _ ER1 fun Hs1 H1 X1 => ?_
  have g' : Go { E with nx := fun ρ' => BB X ρ' rest E } W F Hs1 { D with nx := RSs X rest D } :=
    ⟨fun ρ2 Hs2 H2 σ2 h s E2 => h W F Hs2 H2 σ2 D tk E2 (g.mono (X1.a.trans s)), (g.mono X1.a).rt, (g.mono X1.a).bk, (g.mono X1.a).ct, (g.mono X1.a).er, (g.mono X1.a).ro⟩
  cases b with
  | true => exact iteT (h1 rfl W F Hs1 H1 σ _ tk (ER1.ext X1) g')
  | false => exact iteF (h2 rfl W F Hs1 H1 σ _ tk (ER1.ext X1) g')
theorem bb_if0 (hc : ET X ρ c b) (h1 : b = true → BB X ρ body { E with nx := fun ρ' => BB X ρ' rest E }) (h2 : b = false → BB X ρ rest E) : BB X ρ (.If c body [] pos :: rest) E := bb_if hc h1 fun e => bb_nil (h2 e)
/-- an if whose branch is never taken -/
theorem bb_skip (hc : ET X ρ c false) (h : BB X ρ rest E) : BB X ρ (.If c body [] pos :: rest) E := bb_if0 hc (fun z => by cases z) fun _ => h
/-! own lists: append, extend, pop -/
variable {i : Nat} {apos p npos : Pos}
theorem ER.own {ρ : List Sl} {F Hs H : Hp} {σ : L2.St} (E : ER ρ F Hs H σ) {i : Nat} {ds : List PyData} (h : ρ[i]? = some (.ow (OwnL ds))) : ∃ p xs, σ[i]? = some (some (.ref p)) ∧ H p = some (.lst xs) ∧ DqAll Hs xs ds := by
  obtain ⟨p, u, h1, h2, h3, h4, xs, rfl, h5⟩ := E.o i _ h
  exact ⟨p, xs, h1, h4, h5⟩
theorem bb_append' (i : Nat) {nm : Str} (hO : ρ[i]? = some (.ow (OwnL ds))) (hz : ds.length < 100000)
    (he : ∀ F Hs H σ (Q : VK), ER ρ F Hs H σ → (∀ v Hs' H' d, Ext Hs H Hs' H' → P d → Dq Hs' v d → Q v H') → RE X e σ H Q) (h : ∀ d, P d → BB X (ρ.set i (.ow (OwnL (ds ++ [d])))) rest E)
    (hp : PE X (.Call (.Attribute (.Name nm npos) "append" apos) [e] [] p) (tBM X.K "list" rAppend (tVar i) (tCons (RE X e) tNil)))
    (hs : swapsWith (.Call (.Attribute (.Name nm npos) "append" apos) [e] [] p) none pos.line X.env = pure false) : BB X ρ (.Expr (.Call (.Attribute (.Name nm npos) "append" apos) [e] [] p) pos :: rest) E := fun W F Hs H σ D tk ER1 g => by
  refine RSs.cons (ps_expr hp hs) ?_
  obtain ⟨q, xs, h1, h2, h3⟩ := ER.own ER1 hO
  refine ⟨.ref q, h1, .inl ⟨rfl, _, SqL.of h2⟩, ?_⟩
  refine he F Hs H σ _ ER1 fun v Hs1 H1 d X1 pd hv => ?_
  have E1 := ER.ext ER1 X1
  have h2' : H1 q = some (.lst xs) := X1.same ER1.s _ _ h2
  refine ⟨q, xs, v, rfl, rfl, h2', by rw [h3.length]; exact Nat.lt_of_lt_of_le hz (by decide), ?_⟩
  exact h d pd W F Hs1 _ σ D tk (E1.mut hO h1 ⟨xs ++ [v], rfl, (dqs_mono X1.a _ _ h3).append (.cons hv .nil)⟩) (g.mono X1.a)
theorem bb_append (i : Nat) {nm : Str} (hO : ρ[i]? = some (.ow (OwnL ds))) (hz : ds.length < 100000) (he : EE X ρ e (DL.D d)) (h : BB X (ρ.set i (.ow (OwnL (ds ++ [d])))) rest E)
    (hp : PE X (.Call (.Attribute (.Name nm npos) "append" apos) [e] [] p) (tBM X.K "list" rAppend (tVar i) (tCons (RE X e) tNil)) := by exact pe_bm PySem.F.plainAttrs_list PySem.F.slot_list_append PySem.F.type_list_append mt_append (pv _) (pa_cons pe_RE pa_nil))
    (hs : swapsWith (.Call (.Attribute (.Name nm npos) "append" apos) [e] [] p) none pos.line X.env = pure false := by rfl) : BB X ρ (.Expr (.Call (.Attribute (.Name nm npos) "append" apos) [e] [] p) pos :: rest) E :=
  bb_append' (P := fun d' => d' = d) i hO hz (fun F Hs H σ Q E q => he F Hs H σ Q E fun v Hs' H' x hv => q v Hs' H' d x rfl hv) (fun d' e => by rw [e]; exact h) hp hs
theorem bb_appendX (i : Nat) {nm : Str} (hO : ρ[i]? = some (.ow (OwnL ds))) (hz : ds.length < 100000) (he : EE X ρ e (Ex P)) (h : ∀ d, P d → BB X (ρ.set i (.ow (OwnL (ds ++ [d])))) rest E)
    (hp : PE X (.Call (.Attribute (.Name nm npos) "append" apos) [e] [] p) (tBM X.K "list" rAppend (tVar i) (tCons (RE X e) tNil)) := by exact pe_bm PySem.F.plainAttrs_list PySem.F.slot_list_append PySem.F.type_list_append mt_append (pv _) (pa_cons pe_RE pa_nil))
    (hs : swapsWith (.Call (.Attribute (.Name nm npos) "append" apos) [e] [] p) none pos.line X.env = pure false := by rfl) : BB X ρ (.Expr (.Call (.Attribute (.Name nm npos) "append" apos) [e] [] p) pos :: rest) E :=
  bb_append' i hO hz (fun F Hs H σ Q E q => he F Hs H σ Q E fun v Hs' H' x ⟨d, hd, hv⟩ => q v Hs' H' d x hd hv) h hp hs
theorem bb_extend (i : Nat) {nm : Str} (hO : ρ[i]? = some (.ow (OwnL ds))) (hz : ds.length + es.length ≤ 100000) (he : EE X ρ e (DL.D (.list es))) (h : BB X (ρ.set i (.ow (OwnL (ds ++ es)))) rest E)
    (hp : PE X (.Call (.Attribute (.Name nm npos) "extend" apos) [e] [] p) (tBM X.K "list" rExtend (tVar i) (tCons (RE X e) tNil)) := by exact pe_bm PySem.F.plainAttrs_list PySem.F.slot_list_extend PySem.F.type_list_extend mt_extend (pv _) (pa_cons pe_RE pa_nil))
    (hs : swapsWith (.Call (.Attribute (.Name nm npos) "extend" apos) [e] [] p) none pos.line X.env = pure false := by rfl) : BB X ρ (.Expr (.Call (.Attribute (.Name nm npos) "extend" apos) [e] [] p) pos :: rest) E := fun W F Hs H σ D tk ER1 g => by
  refine RSs.cons (ps_expr hp hs) ?_
  obtain ⟨q, xs, h1, h2, h3⟩ := ER.own ER1 hO
  refine ⟨.ref q, h1, .inl ⟨rfl, _, SqL.of h2⟩, ?_⟩
  refine he F Hs H σ _ ER1 fun v Hs1 H1 X1 hv => ?_
  obtain ⟨a, zs, rfl, ha, hzs⟩ := dq_list hv
  have E1 := ER.ext ER1 X1
  have h2' : H1 q = some (.lst xs) := X1.same ER1.s _ _ h2
  refine ⟨q, a, xs, zs, rfl, rfl, h2', X1.b _ _ ha, by rw [h3.length, hzs.length]; exact Nat.le_trans hz (by decide), ?_⟩
  exact h W F Hs1 _ σ D tk (E1.mut hO h1 ⟨xs ++ zs, rfl, (dqs_mono X1.a _ _ h3).append hzs⟩) (g.mono X1.a)
/-- x = own.pop() -/
theorem bb_setPop (i j : Nat) {nm : Str} (hO : ρ[i]? = some (.ow (OwnL (ds ++ [d])))) (hN : X.N.Nodup) (hj : X.N[j]? = some x) (hx : Loc X.env.scope x) (h : BB X ((ρ.set i (.ow (OwnL ds))).set j (.va (DL.D d))) rest E)
    (hp : PE X (.Call (.Attribute (.Name nm npos) "pop" apos) [] [] p) (tBM0 X.K "list" rPop (tVar i)) := by exact pe_bm0 PySem.F.plainAttrs_list PySem.F.slot_list_pop PySem.F.type_list_pop mt_pop (pv _))
    (hs : swapsWith (.Call (.Attribute (.Name nm npos) "pop" apos) [] [] p) (some (.Name x pos')) pos.line X.env = pure false := by rfl)
    (hf : X.fn x = true ∨ X.env.scope.names.lookup x = some .local := by first | exact .inl rfl | exact .inr rfl | assumption) : BB X ρ (.Assign [.Name x pos'] (.Call (.Attribute (.Name nm npos) "pop" apos) [] [] p) pos :: rest) E := fun W F Hs H σ D tk ER1 g => by
  refine RSs.cons (ps_set hN hj hx hp hs hf) ?_
  obtain ⟨q, xs, h1, h2, h3⟩ := ER.own ER1 hO
  have hl := h3.length
  rw [List.length_append, List.length_singleton] at hl
  obtain ⟨v, hv1, hv2⟩ := h3.at_ (i := ds.length) (d := d) (by rw [List.getElem?_append_right (Nat.le_refl _), Nat.sub_self]; rfl)
  refine ⟨.ref q, h1, .inl ⟨rfl, _, SqL.of h2⟩, q, xs, v, rfl, rfl, h2, by rw [hl]; exact hv1, ?_⟩
  have hdl := h3.dropLast
  rw [List.dropLast_concat] at hdl
  exact h W F Hs _ _ D tk ((ER.mut ER1 (O' := OwnL ds) hO h1 ⟨xs.dropLast, rfl, hdl⟩).set j (T := DL.D d) hv2) g
/-- len(own) -/
theorem ee_lenO (i : Nat) {nm : Str} {npos q0 : Pos} (hm : X.mg "len" = none) (hO : ρ[i]? = some (.ow (OwnL ds))) (hg : Gl X "len" := by rfl) (hN : X.N[i]? = some nm := by rfl) (hv : Vis X.env.scope nm := by first | exact Or.inl rfl | exact Or.inr (Or.inl rfl) | exact Or.inr (Or.inr rfl))
    (hd : (nm == ("__debug__" : Str)) = false := by decide) (hcd : (nm == ("__classdict__" : Str)) = false := by decide) : EE X ρ (.Call (.Name "len" q0) [.Name nm npos] [] pos) (DL.D (.int ds.length)) := fun F Hs H σ Q E q => by
  obtain ⟨a, xs, h1, h2, h3⟩ := E.own hO
  refine RE.of (pe_callB call_len_seq hg hm PySem.boot_len (pa_cons (pe_var hN hv hd hcd) pa_nil)) ?_
  rw [← h3.length] at q
  exact ⟨.ref a, h1, a, xs, rfl, .inl (SqL.of h2), q _ _ _ (Ext.refl E.s) (.int _)⟩
/-- own[k] = e -/
theorem bb_setIx (i : Nat) {nm : Str} {ke : Expr} {k : Int} {n : Nat} {ipos : Pos} (hO : ρ[i]? = some (.ow (OwnL ds))) (he : EE X ρ e (DL.D d)) (hk : EE X ρ ke (DL.D (.int k))) (hn : ixN ds.length k = some n) (h : BB X (ρ.set i (.ow (OwnL (ds.set n d)))) rest E) (hN : X.N[i]? = some nm := by rfl) (hv : Vis X.env.scope nm := by first | exact Or.inl rfl | exact Or.inr (Or.inl rfl) | exact Or.inr (Or.inr rfl))
    (hd : (nm == ("__debug__" : Str)) = false := by decide) (hcd : (nm == ("__classdict__" : Str)) = false := by decide)
    (ha : ∀ v, assign (.Subscript (.Name nm npos) ke ipos) X.env v = (do
      let ov ← holding [v] (eval (.Name nm npos) X.env)
      let iv ← holding [v, ov] (eval ke X.env)
      standAt ipos
      holding [v, ov, iv] (setItem ov iv v)
      release [v, ov, iv] []) := by intro _; rfl)
    (hs : swapsWithSole [.Subscript (.Name nm npos) ke ipos] e pos.line X.env = pure false := by rfl) (hw : swappedStores [.Subscript (.Name nm npos) ke ipos] e X.env = pure none := by rfl)
    (h1 : (assignEach [.Subscript (.Name nm npos) ke ipos] X.env).map (·.2) = [assign (.Subscript (.Name nm npos) ke ipos) X.env] := by rfl) : BB X ρ (.Assign [.Subscript (.Name nm npos) ke ipos] e pos :: rest) E := fun W F Hs H σ D tk ER1 g => by
  refine RSs.cons (ps_asg pe_RE (pg_sub (pe_var hN hv hd hcd) pe_RE set_list ha) hs hw h1) ?_
  refine he F Hs H σ _ ER1 fun v Hs1 H1 X1 hv => ?_
  have E1 := ER1.ext X1
  obtain ⟨q, xs, g1, g2, g3⟩ := ER.own E1 hO
  refine ⟨.ref q, g1, ?_⟩
  refine hk F Hs1 H1 σ _ E1 fun kv Hs2 H2 X2 hkv => ?_
  have E2 := E1.ext X2
  have g2' : H2 q = some (.lst xs) := X2.same E1.s _ _ g2
  refine ⟨q, xs, k, n, rfl, dq_int hkv, g2', by rw [g3.length]; exact hn, ?_⟩
  exact h W F Hs2 _ σ D tk (E2.mut hO g1 ⟨xs.set n v, rfl, DqAll.set (dq_mono X2.a _ _ hv) n (dqs_mono X2.a _ _ g3)⟩) (g.mono (X1.a.trans X2.a))
/-- loops -/
theorem bb_for (Iv : Nat → List Sl → Prop) (hp : PassesOwn (model X.prog X.w) X.A X.env X.xe) (hc : X.calm = true) (hi : IT X ρ tg it Ts) (h0 : Iv 0 ρ)
    (step : ∀ (i : Nat) (T : Ty) (ρ' : List Sl), Ts[i]? = some T → Iv i ρ' → ∃ ρ'' js, GG X ρ' tg T ρ'' js ∧ BB X ρ'' body { E with nx := Iv (i + 1), ct := Iv (i + 1), bk := fun ρ2 => BB X ρ2 rest E })
    (hd : ∀ ρ', Iv Ts.length ρ' → BB X ρ' rest E) (hs : ∀ x, foldedSetIterable it X.env x = pure x := by intro _; rfl) : BB X ρ (.For tg it body [] pos :: rest) E := fun W F Hs H σ D tk ER0 g => by
  refine RSs.cons (ps_for hp hc pi_RI pg_RG pss_RSs hs) ?_
  refine hi F Hs H σ _ ER0 fun J Hs1 H1 X1 G => ?_
  refine ⟨fun i m σ' H' => m = Ts.length - i ∧ i ≤ Ts.length ∧ ∃ ρ' Hs', Iv i ρ' ∧ Same Hs1 Hs' ∧ ER ρ' F Hs' H' σ', ⟨_, rfl, Nat.zero_le _, ρ, Hs1, h0, Same.refl _, ER0.ext X1⟩, ?_⟩
  rintro i m σ' H' ⟨rfl, hil, ρ', Hs', iv, s', E'⟩
  have good := G Hs' H' s' E'.s i hil
  by_cases hlt : i < Ts.length
  · obtain ⟨T, hT⟩ : ∃ T, Ts[i]? = some T := ⟨_, List.getElem?_eq_getElem hlt⟩
    obtain ⟨go, yld⟩ := good.1 T hT
    refine .inr ⟨go, fun σ2 H2 => ∃ ρ2 Hs2, Iv (i + 1) ρ2 ∧ Same Hs1 Hs2 ∧ ER ρ2 F Hs2 H2 σ2, fun σ2 H2 ⟨ρ2, Hs2, h1, h2, h3⟩ => ⟨_, by omega, rfl, by omega, ρ2, Hs2, h1, h2, h3⟩, fun x H2 y => ?_⟩
    obtain ⟨Hs2, X2, hx⟩ := yld x H2 y
    obtain ⟨ρ'', js, gg, bb⟩ := step i T ρ' hT iv
    refine gg F Hs2 H2 σ' x _ (E'.ext X2) hx fun σ3 E3 _ _ => ?_
    have s2 : Same Hs1 Hs2 := s'.trans X2.a
    refine bb W F Hs2 H2 σ3 _ tk E3 ⟨fun ρ3 Hs3 H3 σ4 h s E4 => ⟨ρ3, Hs3, h, s2.trans s, E4⟩, (g.mono (X1.a.trans s2)).rt, fun ρ3 Hs3 H3 σ4 h s E4 => ?_, fun ρ3 Hs3 H3 σ4 h s E4 => ⟨ρ3, Hs3, h, s2.trans s, E4⟩, (g.mono (X1.a.trans s2)).er, (g.mono (X1.a.trans s2)).ro⟩
    exact h W F Hs3 H3 σ4 D tk E4 (g.mono ((X1.a.trans s2).trans s))
  · have e : i = Ts.length := by omega
    subst e
    exact .inl ⟨good.2 rfl, hd ρ' iv W F Hs' H' σ' D tk E' (g.mono (X1.a.trans s'))⟩
theorem bb_while (Iv : Nat → List Sl → Prop) (m0 : Nat) (hp : PassesOwn (model X.prog X.w) X.A X.env X.xe) (h0 : Iv m0 ρ)
    (step : ∀ (m : Nat) (ρ' : List Sl), Iv m ρ' → ∃ b, ET X ρ' c b ∧ (b = true → BB X ρ' body { E with nx := fun ρ2 => ∃ m', m' < m ∧ Iv m' ρ2, ct := fun ρ2 => ∃ m', m' < m ∧ Iv m' ρ2, bk := fun ρ2 => BB X ρ2 rest E }) ∧ (b = false → BB X ρ' rest E)) :
    BB X ρ (.While c body [] pos :: rest) E := fun W F Hs H σ D tk ER0 g => by
  refine RSs.cons (ps_while hp pt_RT pss_RSs) ?_
  refine ⟨fun m σ' H' => ∃ ρ' Hs', Iv m ρ' ∧ Same Hs Hs' ∧ ER ρ' F Hs' H' σ', ⟨m0, ρ, Hs, h0, Same.refl _, ER0⟩, ?_⟩
  rintro m σ' H' ⟨ρ', Hs', iv, s', E'⟩
  obtain ⟨b, ec, h1, h2⟩ := step m ρ' iv
  refine ec F Hs' H' σ' _ E' fun Hs1 H1 X1 => ?_
  have s1 : Same Hs Hs1 := s'.trans X1.a
  cases b with
  | true =>
    refine iteT ⟨fun σ2 H2 => ∃ m', m' < m ∧ ∃ ρ2 Hs2, Iv m' ρ2 ∧ Same Hs Hs2 ∧ ER ρ2 F Hs2 H2 σ2, fun σ2 H2 h => h, ?_⟩
    refine h1 rfl W F Hs1 H1 σ' _ tk (E'.ext X1) ⟨fun ρ3 Hs3 H3 σ4 ⟨m', hm, h⟩ s E4 => ⟨m', hm, ρ3, Hs3, h, s1.trans s, E4⟩, (g.mono s1).rt, fun ρ3 Hs3 H3 σ4 h s E4 => ?_, fun ρ3 Hs3 H3 σ4 ⟨m', hm, h⟩ s E4 => ⟨m', hm, ρ3, Hs3, h, s1.trans s, E4⟩, (g.mono s1).er, (g.mono s1).ro⟩
    exact h W F Hs3 H3 σ4 D tk E4 (g.mono (s1.trans s))
  | false => exact iteF (h2 rfl W F Hs1 H1 σ' D tk (E'.ext X1) (g.mono s1))
/-- where nothing is raised -/
theorem bb_nox (h : BB X.nox ρ rest E) (he : E.er = fun _ => False) : BB X ρ rest E := fun W F Hs H σ D tk ER1 g => by
  refine RSs.of (PSs.nox pss_RSs) ?_
  refine h (fun _ _ _ _ => False) F Hs H σ D takes0 ER1 ⟨g.nx, g.rt, g.bk, g.ct, fun c Hs' H' σ' z => ?_, g.ro⟩
  rw [he] at z
  exact fun _ _ _ => z
end
/-! ### a def by its body -/
def cx0 (P : Program) (w : World) (K : PySem.W.Frag) (mg : Str → Option Value) (base : Heap) (N : List Str) (qual : Str) (scope : Scope) (f : Addr) (cd : Value) (A : Around) (outer : List Env) (s : Shared) (H : Hp) (E : XK) : Cx :=
  (cxOf CX0 P w K mg base N qual scope f cd A outer s H E).nox
def start0 (N : List Str) (Ts : List Ty) : List Sl := Ts.map .va ++ List.replicate (N.length - Ts.length) .un
theorem er_start {N : List Str} {Ts : List Ty} {vs : List V} {Hs H : Hp} (s : Same Hs H) (h : Tys Hs Ts vs) : ER (start0 N Ts) (fun p => if (Hs p).isNone then H p else none) Hs H (L2.start N vs) := by
  have hl := h.length
  have at_ : ∀ (i : Nat) (x : Sl), x ≠ .un → (start0 N Ts)[i]? = some x → ∃ T, x = .va T ∧ Ts[i]? = some T := fun i x hx hi => by
    unfold start0 at hi
    by_cases h : i < Ts.length
    · rw [List.getElem?_append_left (by rw [List.length_map]; exact h), List.getElem?_map] at hi
      cases e : Ts[i]? with
      | none => rw [e] at hi; cases hi
      | some T =>
        rw [e] at hi
        exact ⟨T, (Option.some.inj hi).symm, rfl⟩
    · rw [List.getElem?_append_right (by rw [List.length_map]; omega), List.getElem?_replicate] at hi
      split at hi
      · exact absurd (Option.some.inj hi).symm hx
      · cases hi
  refine ⟨s, fun p u e => ?_, ?_, fun i T hi => ?_, fun i O hi => ?_, fun i j O O' p hi => ?_⟩
  · cases q : Hs p with
    | none =>
      simp only [q, Option.isNone_none, if_true] at e
      exact ⟨.inl rfl, e⟩
    | some o =>
      simp only [q, Option.isNone_some] at e
      exact absurd e (by intro z; cases z)
  · unfold L2.start start0
    rw [List.length_append, List.length_append, List.length_map, List.length_map, List.length_replicate, List.length_replicate, hl]
  · obtain ⟨T', e, hT⟩ := at_ i _ (by intro z; cases z) hi
    injection e with e
    subst e
    obtain ⟨v, hv, hp⟩ := h.at_ hT
    refine ⟨v, ?_, hp⟩
    unfold L2.start
    have hlt := (List.getElem?_eq_some_iff.mp hv).1
    rw [List.getElem?_append_left (by rw [List.length_map]; exact hlt), List.getElem?_map, hv]
    rfl
  · obtain ⟨T', e, _⟩ := at_ i _ (by intro z; cases z) hi
    cases e
  · obtain ⟨T', e, _⟩ := at_ i _ (by intro z; cases z) hi
    cases e
/-- what is kept of the entry behind the body -/
theorem ext_of {Hs H Hs' H' : Hp} (s : Same Hs Hs') (s' : Same Hs' H') (hf : ∀ p u, (fun p => if (Hs p).isNone then H p else none) p = some u → (Hs' p = none ∨ IsT u) ∧ H' p = some u) : Ext Hs H Hs' H' :=
  ⟨s, s', fun p u e g => by
    have z := hf p u (by show (if (Hs p).isNone then H p else none) = some u; rw [g]; exact e)
    exact z.symm⟩
section
variable {P : Program} {w : World} {K : PySem.W.Frag} {mg : Str → Option Value} {base : Heap} {x qual : Str} {params : Arguments} {body : List Stmt} {scope : Scope} {f : Addr} {fd : FuncData} {N ps : List Str} {k : Nat} {S : List Ty → Ty → Prop}
theorem fn_ok (F : FunD K x qual params body scope [] [] f fd) (Sc : FnScope N ps scope) (ar : ∀ Ts T, S Ts T → Ts.length = ps.length)
    (hb : ∀ (cdv : Value) (A : Around) (outer : List Env) (s : Shared) (H : Hp) (E : XK), Room k (cx0 P w K mg base N qual scope f cdv A outer s H E).A → ∀ Ts T, S Ts T →
      BB (cx0 P w K mg base N qual scope f cdv A outer s H E) (start0 N Ts) body { nx := fun _ => ∀ H, T.p H .non, rt := T }) : FnOk P w K mg base CX0 (k + 1) f fd ps (spS S) := by
  refine F.ok Sc (fun vs H Q E h => ?_) (fun cdv A outer s H vs Q E hr h => ?_)
  · obtain ⟨Ts, T, Hs, hS, _, ht, _⟩ := h
    rw [← ht.length]
    exact ar Ts T hS
  · obtain ⟨Ts, T, Hs, hS, sm, ht, q⟩ := h
    refine ⟨_, PSs.nox pss_RSs, ?_⟩
    refine hb cdv A outer s H E hr Ts T hS (fun _ _ _ _ => False) _ Hs H _ _ takes0 (er_start sm ht) ⟨fun ρ' Hs' H' σ' h1 h2 h3 => ?_, fun v Hs' H' h1 h2 h3 h4 => ?_, fun _ _ _ _ z => z.elim, fun _ _ _ _ z => z.elim, fun _ _ _ _ z => z.elim, fun _ _ _ _ _ z => z.elim⟩
    · exact q _ _ _ (ext_of h2 h3.s h3.f) (h1 _)
    · exact q _ _ _ (ext_of h1 h2 h3) h4
/-- promises: a new own object -/
def spO (S : List Ty → Ow → Prop) : Sp := fun vs H Q _ => ∃ (Ts : List Ty) (O : Ow) (Hs : Hp), S Ts O ∧ Same Hs H ∧ Tys Hs Ts vs ∧ ∀ p u Hs' H', Ext Hs H Hs' H' → H p = none → Hs' p = none → H' p = some u → O.p Hs' p u → Q (.ref p) H'
theorem fn_okO {S : List Ty → Ow → Prop} (F : FunD K x qual params body scope [] [] f fd) (Sc : FnScope N ps scope) (ar : ∀ Ts T, S Ts T → Ts.length = ps.length)
    (hb : ∀ (cdv : Value) (A : Around) (outer : List Env) (s : Shared) (H : Hp) (E : XK), Room k (cx0 P w K mg base N qual scope f cdv A outer s H E).A → ∀ Ts O, S Ts O →
      BB (cx0 P w K mg base N qual scope f cdv A outer s H E) (start0 N Ts) body { nx := fun _ => False, rt := ⟨fun _ _ => False, fun _ h => h⟩, ro := fun O' => O' = O }) : FnOk P w K mg base CX0 (k + 1) f fd ps (spO S) := by
  refine F.ok Sc (fun vs H Q E h => ?_) (fun cdv A outer s H vs Q E hr h => ?_)
  · obtain ⟨Ts, T, Hs, hS, _, ht, _⟩ := h
    rw [← ht.length]
    exact ar Ts T hS
  · obtain ⟨Ts, O, Hs, hS, sm, ht, q⟩ := h
    refine ⟨_, PSs.nox pss_RSs, ?_⟩
    refine hb cdv A outer s H E hr Ts O hS (fun _ _ _ _ => False) _ Hs H _ _ takes0 (er_start sm ht) ⟨fun ρ' Hs' H' σ' h1 h2 h3 => ?_, fun v Hs' H' h1 h2 h3 h4 => ?_, fun _ _ _ _ z => z.elim, fun _ _ _ _ z => z.elim, fun _ _ _ _ z => z.elim, fun O' p u Hs' H' e h1 h2 h3 h4 h5 h6 h7 => ?_⟩
    · exact h1.elim
    · exact h4.elim
    · subst e
      refine q p u Hs' H' (ext_of h1 h2 h3) ?_ h4 h6 h7
      have h5' : (if (Hs p).isNone then H p else none) = none := h5
      rw [h1.free h4] at h5'
      exact h5'
/-- the def by the name x, which gives a new own object -/
structure FnO (P : Program) (w : World) (K : PySem.W.Frag) (mg : Str → Option Value) (base : Heap) (k : Nat) (x : Str) (S : List Ty → Ow → Prop) : Prop where
  ex : ∃ (f : Addr) (fd : FuncData) (ps : List Str), FnOk P w K mg base CX0 k f fd ps (spO S) ∧ mg x = some (.ref f) ∧ PySem.W.keepIn K (.ref f) = true ∧ Binds K fd ps []
theorem eo_call {X : Cx} {ρ : List Sl} {e : Expr} {es : List Expr} {O : Ow} {Ts : List Ty} {S : List Ty → Ow → Prop} {p pos : Pos} (G : FnO X.prog X.w X.K X.mg X.base k x S) (hr : Room k X.A) (ha : EA X ρ (e :: es) Ts) (hS : S Ts O) (hg : Gl X x := by rfl) (hdb : (x == ("__debug__" : Str)) = false := by decide)
    (he : starEach (e :: es) X.env = (false, eval e X.env) :: starEach es X.env := by rfl) (hpl : (backTo pos (starEach es X.env)).any (·.1) = false := by rfl) : EO X ρ (.Call (.Name x p) (e :: es) [] pos) O := fun F Hs H σ Q E q => by
  obtain ⟨f, fd, ps, G, hm, hk, hb⟩ := G.ex
  refine RE.of (pe_call G hr hg hm hk hb .nil pass0 pa_RA hdb he hpl) ?_
  refine ha F Hs H σ _ E fun vs Hs1 H1 X1 hvs => ?_
  show spO S (vs ++ []) H1 Q _
  rw [List.append_nil]
  exact ⟨Ts, O, Hs1, hS, X1.b, hvs, fun p u Hs2 H2 X2 h1 h2 h3 h4 => q p u _ _ (X1.trans X2) (X1.free E.s h1) h2 h3 h4⟩
end
end DL

set_option Elab.async false
set_option linter.all false
set_option maxRecDepth 100000
set_option maxHeartbeats 4000000
namespace DL
open PySem PySem.Spec PyProof.Rows L2
theorem Fn.mono {P : Program} {w : World} {K : PySem.W.Frag} {mg : Str → Option Value} {base : Heap} {j k : Nat} {x : Str} {S : List Ty → Ty → Prop} (h : Fn P w K mg base j x S) (l : j ≤ k) : Fn P w K mg base k x S := by
  obtain ⟨f, fd, ps, G, a, b, c⟩ := h.ex
  exact ⟨f, fd, ps, G.mono l, a, b, c⟩
theorem Me.mono {P : Program} {w : World} {K : PySem.W.Frag} {mg : Str → Option Value} {base : Heap} {j k : Nat} {C : Addr} {m : Str} {S : List Ty → Ty → Prop} (h : Me P w K mg base j C m S) (l : j ≤ k) : Me P w K mg base k C m S := by
  obtain ⟨f, fd, ps, G, a, b⟩ := h.ex
  exact ⟨⟨f, fd, ps, G.mono l, a, b⟩, h.cl⟩
theorem Fn.imp {P : Program} {w : World} {K : PySem.W.Frag} {mg : Str → Option Value} {base : Heap} {k : Nat} {x : Str} {S S' : List Ty → Ty → Prop} (h : Fn P w K mg base k x S) (l : ∀ Ts T, S' Ts T → S Ts T) : Fn P w K mg base k x S' := by
  obtain ⟨f, fd, ps, G, a, b, c⟩ := h.ex
  exact ⟨f, fd, ps, G.imp fun vs H Q E ⟨Ts, T, Hs, hS, r⟩ => ⟨Ts, T, Hs, l _ _ hS, r⟩, a, b, c⟩
theorem at_ {α : Type} {xs : List α} {i : Int} {v : α} (j : Nat) (h : i = (j : Int)) (e : xs[j]? = some v) : atI xs i = some v := by rw [h]; exact atI_nat e
section
variable {X : Cx} {ρ : List Sl} {a b c e elt tg it : Expr} {T A B : Ty} {Ts : List Ty} {pos p : Pos} {i j : Int} {d d' : PyData} {ds ds' : List PyData} {k : Nat} {x y : Str}
/-! short words -/
theorem e_add (ha : EE X ρ a (D (.int i))) (hb : EE X ρ b (D (.int j))) : EE X ρ (.BinOp a .Add b pos) (D (.int (i + j))) := ee_op op_add ha hb r2_int
theorem e_sub (ha : EE X ρ a (D (.int i))) (hb : EE X ρ b (D (.int j))) : EE X ρ (.BinOp a .Sub b pos) (D (.int (i - j))) := ee_op op_sub ha hb r2_int
theorem e_mul (ha : EE X ρ a (D (.int i))) (hb : EE X ρ b (D (.int j))) (h : CMulW i j) : EE X ρ (.BinOp a .Mult b pos) (D (.int (i * j))) := ee_op op_mulW ha hb (r2_intC h)
theorem e_mod (ha : EE X ρ a (D (.int i))) (hb : EE X ρ b (D (.int j))) (h : 0 < j) : EE X ρ (.BinOp a .Mod b pos) (D (.int (i % j))) := ee_op op_mod ha hb (r2_intC (C := fun _ j => 0 < j) h)
theorem e_div (ha : EE X ρ a (D (.int i))) (hb : EE X ρ b (D (.int j))) (h : CDivW i j) : EE X ρ (.BinOp a .FloorDiv b pos) (D (.int (i / j))) := ee_op op_fdivW ha hb (r2_intC h)
theorem e_pow (ha : EE X ρ a (D (.int i))) (hb : EE X ρ b (D (.int j))) (h : CPow i j) : EE X ρ (.BinOp a .Pow b pos) (D (.int (i ^ j.toNat))) := ee_op op_pow ha hb (r2_intC h)
theorem e_ixL (ha : EE X ρ a (D (.list ds))) (hb : EE X ρ b (D (.int i))) (h : atI ds i = some d) (hs : PlainIx b := by exact fun _ _ => rfl) : EE X ρ (.Subscript a b pos) (D d) := ee_ix ix_list ha hb (r2_ixL h) hs
theorem e_ixT (ha : EE X ρ a (D (.tuple ds))) (hb : EE X ρ b (D (.int i))) (h : atI ds i = some d) (hs : PlainIx b := by exact fun _ _ => rfl) : EE X ρ (.Subscript a b pos) (D d) := ee_ix ix_tup ha hb (r2_ixT h) hs
theorem e_ixS {cp : Nat} (ha : EE X ρ a (D (.str x))) (hb : EE X ρ b (D (.int i))) (hz : x.length ≤ 100000) (h : atI x.cps.toList i = some cp) (hs : PlainIx b := by exact fun _ _ => rfl) : EE X ρ (.Subscript a b pos) (D (.str ⟨#[cp]⟩)) := ee_ix ix_str ha hb (r2_ixS hz h) hs
theorem e_catL (ha : EE X ρ a (D (.list ds))) (hb : EE X ρ b (D (.list ds'))) (h : ds.length + ds'.length ≤ 100000) : EE X ρ (.BinOp a .Add b pos) (D (.list (ds ++ ds'))) := ee_op op_cat ha hb (r2_catL h)
theorem e_catT (ha : EE X ρ a (D (.tuple ds))) (hb : EE X ρ b (D (.tuple ds'))) (h : ds.length + ds'.length ≤ 100000) : EE X ρ (.BinOp a .Add b pos) (D (.tuple (ds ++ ds'))) := ee_op op_catA ha hb (r2_catT h)
theorem e_catS (ha : EE X ρ a (D (.str x))) (hb : EE X ρ b (D (.str y))) (h : x.length + y.length ≤ 100000) : EE X ρ (.BinOp a .Add b pos) (D (.str (x ++ y))) := ee_op op_add_str ha hb (r2_catS h)
theorem t_eqI (ha : EE X ρ a (D (.int i))) (hb : EE X ρ b (D (.int j))) : ET X ρ (.Compare a [.Eq] [b] pos) (decide (i = j)) := et_cmp op_eq (nomark _) ha hb r2_eqI
theorem t_neI (ha : EE X ρ a (D (.int i))) (hb : EE X ρ b (D (.int j))) : ET X ρ (.Compare a [.NotEq] [b] pos) (!decide (i = j)) := et_cmp op_ne (nomark _) ha hb r2_neI
theorem t_ltI (ha : EE X ρ a (D (.int i))) (hb : EE X ρ b (D (.int j))) : ET X ρ (.Compare a [.Lt] [b] pos) (decide (i < j)) := et_cmp op_lt (nomark _) ha hb r2_bool
theorem t_gtI (ha : EE X ρ a (D (.int i))) (hb : EE X ρ b (D (.int j))) : ET X ρ (.Compare a [.Gt] [b] pos) (decide (j < i)) := et_cmp op_gt (nomark _) ha hb r2_bool
theorem e_gtI (ha : EE X ρ a (D (.int i))) (hb : EE X ρ b (D (.int j))) : EE X ρ (.Compare a [.Gt] [b] pos) (D (.bool (decide (j < i)))) := ee_cmp op_gt (nomark _) ha hb r2_bool
theorem e_eqD (hr : Room k X.A) (ha : EE X ρ a (D d)) (hb : EE X ρ b (D d')) (h : SeqAt.shaped d = true) (h' : SeqAt.shaped d' = true) : EE X ρ (.Compare a [.Eq] [b] pos) (D (.bool (PyData.eqv d d'))) := ee_cmp (op_eqD hr.units) (nomark _) ha hb (r2_eqD h h')
theorem t_eqD (hr : Room k X.A) (ha : EE X ρ a (D d)) (hb : EE X ρ b (D d')) (h : SeqAt.shaped d = true) (h' : SeqAt.shaped d' = true) : ET X ρ (.Compare a [.Eq] [b] pos) (PyData.eqv d d') := et_cmp (op_eqD hr.units) (nomark _) ha hb (r2_eqD h h')
theorem t_neD (hr : Room k X.A) (ha : EE X ρ a (D d)) (hb : EE X ρ b (D d')) (h : SeqAt.shaped d = true) (h' : SeqAt.shaped d' = true) : ET X ρ (.Compare a [.NotEq] [b] pos) (!PyData.eqv d d') := et_cmp (op_neD hr.units) (nomark _) ha hb (r2_neD h h')
theorem room65 {A : Around} (hr : Room k A) : A.units + 65 < cLine := by have := hr.un; omega
theorem t_inD (hr : Room k X.A) (ha : EE X ρ a (D d)) (hb : EE X ρ b (D (.list ds))) (h : SeqAt.shaped d = true) (h' : SeqAt.shaped (.list ds) = true) (hm : behindInMarks .In b = false := by rfl) : ET X ρ (.Compare a [.In] [b] pos) (ds.any fun z => PyData.eqv z d) := et_cmp (op_inD (room65 hr)) hm ha hb (r2_inD h h')
theorem e_inD (hr : Room k X.A) (ha : EE X ρ a (D d)) (hb : EE X ρ b (D (.list ds))) (h : SeqAt.shaped d = true) (h' : SeqAt.shaped (.list ds) = true) (hm : behindInMarks .In b = false := by rfl) : EE X ρ (.Compare a [.In] [b] pos) (D (.bool (ds.any fun z => PyData.eqv z d))) := ee_cmp (op_inD (room65 hr)) hm ha hb (r2_inD h h')
theorem e_inS {cp : Nat} (ha : EE X ρ a (D (.str ⟨#[cp]⟩))) (hb : EE X ρ b (D (.str x))) (hm : behindInMarks .In b = false := by rfl) : EE X ρ (.Compare a [.In] [b] pos) (D (.bool (decide (cp ∈ x.cps.toList)))) := ee_cmp op_in_sign hm ha hb r2_inS
theorem e_isN (ha : EE X ρ a (D d)) {jp pp} : EE X ρ (.Compare a [.Is] [.Constant .none jp pp] pos) (D (.bool (isNoneD d))) := ee_cmp op_isN (nomark _) ha ee_non r2_isN
/-! built-ins -/
theorem e_lenL (hm : X.mg "len" = none) (ha : EE X ρ a (D (.list ds))) (hg : Gl X "len" := by rfl) (he : starEach [a] X.env = (false, eval a X.env) :: starEach [] X.env := by rfl) : EE X ρ (.Call (.Name "len" p) [a] [] pos) (D (.int ds.length)) := ee_callB call_len_seq hm boot_len (ea_cons ha ea_nil he) rc_lenL hg (he := he)
theorem e_lenT (hm : X.mg "len" = none) (ha : EE X ρ a (D (.tuple ds))) (hg : Gl X "len" := by rfl) (he : starEach [a] X.env = (false, eval a X.env) :: starEach [] X.env := by rfl) : EE X ρ (.Call (.Name "len" p) [a] [] pos) (D (.int ds.length)) := ee_callB call_len_seq hm boot_len (ea_cons ha ea_nil he) rc_lenT hg (he := he)
theorem e_lenS (hm : X.mg "len" = none) (ha : EE X ρ a (D (.str x))) (hz : x.length ≤ 100000) (hg : Gl X "len" := by rfl) (he : starEach [a] X.env = (false, eval a X.env) :: starEach [] X.env := by rfl) : EE X ρ (.Call (.Name "len" p) [a] [] pos) (D (.int x.length)) := ee_callB call_len_str hm boot_len (ea_cons ha ea_nil he) (rc_lenS hz) hg (he := he)
theorem e_isi {n : String} {q : Bool} (hm : X.mg "isinstance" = none) (ha : EE X ρ a (D d)) (hb : EE X ρ b (Cst (.ty n))) (h : kitB (tyName d) n = some q) (hg : Gl X "isinstance" := by rfl) (he : starEach [a, b] X.env = (false, eval a X.env) :: starEach [b] X.env := by rfl)
    (he2 : starEach [b] X.env = (false, eval b X.env) :: starEach [] X.env := by rfl) (hpl : (backTo pos (starEach [b] X.env)).any (·.1) = false := by rfl) : EE X ρ (.Call (.Name "isinstance" p) [a, b] [] pos) (D (.bool q)) := ee_callB call_isi hm boot_isinstance (ea_cons ha (ea_cons hb ea_nil he2) he) (rc_isi h) hg (he := he) (hpl := hpl)
theorem e_all {bs : List Bool} (hc : X.calm = true) (hm : X.mg "all" = none) (ha : EE X ρ a (D (.list (bs.map PyData.bool)))) (hg : Gl X "all" := by rfl) (he : starEach [a] X.env = (false, eval a X.env) :: starEach [] X.env := by rfl) : EE X ρ (.Call (.Name "all" p) [a] [] pos) (D (.bool (bs.all _root_.id))) := ee_callB (cr_all hc) hm boot_all (ea_cons ha ea_nil he) rc_all hg (he := he)
theorem e_any {bs : List Bool} (hc : X.calm = true) (hm : X.mg "any" = none) (ha : EE X ρ a (D (.list (bs.map PyData.bool)))) (hg : Gl X "any" := by rfl) (he : starEach [a] X.env = (false, eval a X.env) :: starEach [] X.env := by rfl) : EE X ρ (.Call (.Name "any" p) [a] [] pos) (D (.bool (bs.any _root_.id))) := ee_callB (cr_any hc) hm boot_any (ea_cons ha ea_nil he) rc_any hg (he := he)
theorem e_intB {q : Bool} (hm : X.mg "int" = none) (ha : EE X ρ a (D (.bool q))) (hg : Gl X "int" := by rfl) (he : starEach [a] X.env = (false, eval a X.env) :: starEach [] X.env := by rfl) : EE X ρ (.Call (.Name "int" p) [a] [] pos) (D (.int (if q then 1 else 0))) := ee_callTy call_int1 hm boot_int (ea_cons ha ea_nil he) rc_intB hg (he := he)
theorem e_divmod (hm : X.mg "divmod" = none) (ha : EE X ρ a (D (.int i))) (hb : EE X ρ b (D (.int j))) (h1 : 0 < j) (h2 : j < 1073741824) (hg : Gl X "divmod" := by rfl) (he : starEach [a, b] X.env = (false, eval a X.env) :: starEach [b] X.env := by rfl)
    (he2 : starEach [b] X.env = (false, eval b X.env) :: starEach [] X.env := by rfl) (hpl : (backTo pos (starEach [b] X.env)).any (·.1) = false := by rfl) : EE X ρ (.Call (.Name "divmod" p) [a, b] [] pos) (D (.tuple [.int (i / j), .int (i % j)])) := ee_callB call_divmod hm boot_divmod (ea_cons ha (ea_cons hb ea_nil he2) he) (rc_divmod h1 h2) hg (he := he) (hpl := hpl)
theorem o_list (hm : X.mg "list" = none) (ha : EE X ρ a (D (.list ds))) (hg : Gl X "list" := by rfl) (he : starEach [a] X.env = (false, eval a X.env) :: starEach [] X.env := by rfl) : EO X ρ (.Call (.Name "list" p) [a] [] pos) (OwnL ds) := eo_callTy call_list_of hm boot_list (ea_cons ha ea_nil he) rco_list hg (he := he)
theorem e_tuple (hm : X.mg "tuple" = none) (ha : EE X ρ a (D (.list ds))) (hg : Gl X "tuple" := by rfl) (he : starEach [a] X.env = (false, eval a X.env) :: starEach [] X.env := by rfl) : EE X ρ (.Call (.Name "tuple" p) [a] [] pos) (D (.tuple ds)) := ee_callTy call_tuple_of hm boot_tuple (ea_cons ha ea_nil he) rc_tuple hg (he := he)
/-! comprehensions -/
variable {ifs : List Expr} {scope : Scope} {own : List (Str × Nat)} {vs : List Nat} {ρ' : List Sl} {js : List Nat}
theorem turn_keep (hg : ∀ s H C cl fp, GG (blkX X scope s H C cl fp) (wipeS ρ vs) tg T ρ' js) (he : ∀ s H C cl fp, EE (blkX X scope s H C cl fp) ρ' elt (D d)) (hj : (js.all fun j => vs.contains j) = true := by rfl) : Turn1 X ρ scope tg elt [] vs T (some d) :=
  ⟨ρ', js, true, fun j h => List.contains_iff_mem.mp (List.all_eq_true.mp hj j h), hg, fun _ _ _ _ _ => ets_nil, fun z => (nomatch z), fun _ => ⟨d, rfl, he⟩⟩
theorem turn_if {q : Bool} {o : Option PyData} (hg : ∀ s H C cl fp, GG (blkX X scope s H C cl fp) (wipeS ρ vs) tg T ρ' js) (hc : ∀ s H C cl fp, ET (blkX X scope s H C cl fp) ρ' c q) (h0 : q = false → o = none) (h1 : q = true → ∃ d, o = some d ∧ ∀ s H C cl fp, EE (blkX X scope s H C cl fp) ρ' elt (D d))
    (hj : (js.all fun j => vs.contains j) = true := by rfl) : Turn1 X ρ scope tg elt [c] vs T o :=
  ⟨ρ', js, q, fun j h => List.contains_iff_mem.mp (List.all_eq_true.mp hj j h), hg, fun s H C cl fp => ets_one (hc s H C cl fp), h0, h1⟩
theorem filterMap_some (ds : List PyData) : (ds.map some).filterMap _root_.id = ds := by
  induction ds with
  | nil => rfl
  | cons d ds ih => exact congrArg (d :: ·) ih
/-- no test: the i-th item gives the i-th of ds -/
theorem o_lc {Ts : List Ty} (ds : List PyData) (hc : X.calm = true) (hN : X.N.Nodup) (hi : IT X ρ tg it Ts) (ok : BlkOk X.N X.env.scope scope own) (hl : ds.length = Ts.length) (hz : Ts.length ≤ 100000)
    (step : ∀ (i : Nat) (T : Ty) (d : PyData), Ts[i]? = some T → ds[i]? = some d → Turn1 X ρ scope tg elt [] (own.map (·.2)) T (some d)) (hs : ∀ x, foldedSetIterable it X.env x = pure x := by intro _; rfl) :
    EO X ρ (.ListComp elt [⟨tg, it, [], 0⟩] scope pos) (OwnL ds) := by
  have h := eo_lc (os := ds.map some) (pos := pos) hc hN hi ok (by rw [List.length_map]; exact hl) hz (fun i T o h1 h2 => by
    rw [List.getElem?_map] at h2
    cases e : ds[i]? with
    | none => rw [e] at h2; cases h2
    | some d =>
      rw [e] at h2
      rw [← Option.some.inj h2]
      exact step i T d h1 e) hs
  rw [filterMap_some] at h
  exact h
/-- with a test: over data -/
theorem o_lcIf (ds : List PyData) (f : PyData → Option PyData) (hc : X.calm = true) (hN : X.N.Nodup) (hi : IT X ρ tg it (ds.map D)) (ok : BlkOk X.N X.env.scope scope own) (hz : ds.length ≤ 100000)
    (step : ∀ d ∈ ds, Turn1 X ρ scope tg elt ifs (own.map (·.2)) (D d) (f d)) (hs : ∀ x, foldedSetIterable it X.env x = pure x := by intro _; rfl) :
    EO X ρ (.ListComp elt [⟨tg, it, ifs, 0⟩] scope pos) (OwnL (ds.filterMap f)) := by
  have h := eo_lc (os := ds.map f) (pos := pos) hc hN hi ok (by rw [List.length_map, List.length_map]) (by rw [List.length_map]; exact hz) (fun i T o h1 h2 => by
    rw [List.getElem?_map] at h1 h2
    cases e : ds[i]? with
    | none => rw [e] at h2; cases h2
    | some d =>
      rw [e] at h1 h2
      rw [← Option.some.inj h1, ← Option.some.inj h2]
      exact step d (List.mem_of_getElem? e)) hs
  rw [List.filterMap_map] at h
  exact h
end
end DL

set_option Elab.async false
set_option linter.all false
set_option maxRecDepth 100000
set_option maxHeartbeats 4000000
/-! plain: terms as data -/
namespace Q
open PySem
def NameOk (s : Str) : Prop := 1 ≤ s.length ∧ s.length ≤ 8 ∧ ∀ c ∈ s.cps.toList, 97 ≤ c ∧ c ≤ 122
inductive Tm : PyData → Prop
  | blk (n : Int) (h0 : 0 ≤ n) (h1 : n ≤ 999) : Tm (.int n)
  | app (s : Str) (as : List PyData) (hs : NameOk s) (hl : as.length ≤ 9) (h : ∀ a ∈ as, Tm a) : Tm (.tuple (.str s :: as))
mutual
/-- how many parts -/
def cnt : PyData → Nat
  | .tuple xs => 1 + cntT xs
  | _ => 1
def cntT : List PyData → Nat
  | [] => 0
  | _ :: r => cntL r
def cntL : List PyData → Nat
  | [] => 0
  | a :: r => cnt a + cntL r
end
mutual
def lev : PyData → Nat
  | .tuple xs => 1 + levT xs
  | _ => 1
def levT : List PyData → Nat
  | [] => 0
  | _ :: r => levL r
def levL : List PyData → Nat
  | [] => 0
  | a :: r => max (lev a) (levL r)
end
mutual
/-- all parts with their paths -/
def pf (path : List PyData) : PyData → List (List PyData × PyData)
  | .tuple xs => (path, .tuple xs) :: pfT path xs
  | .none => [(path, .none)]
  | .bool b => [(path, .bool b)]
  | .int b => [(path, .int b)]
  | .str b => [(path, .str b)]
  | .list b => [(path, .list b)]
  | .dict b => [(path, .dict b)]
def pfT (path : List PyData) : List PyData → List (List PyData × PyData)
  | [] => []
  | _ :: r => pfL path 0 r
def pfL (path : List PyData) (k : Nat) : List PyData → List (List PyData × PyData)
  | [] => []
  | a :: r => pf (path ++ [.int (k : Nat)]) a ++ pfL path (k + 1) r
end
mutual
def parts : PyData → List PyData
  | .tuple xs => .tuple xs :: partsT xs
  | .none => [.none]
  | .bool b => [.bool b]
  | .int b => [.int b]
  | .str b => [.str b]
  | .list b => [.list b]
  | .dict b => [.dict b]
def partsT : List PyData → List PyData
  | [] => []
  | _ :: r => partsL r
def partsL : List PyData → List PyData
  | [] => []
  | a :: r => parts a ++ partsL r
end
def pthD (p : List PyData × PyData) : PyData := .tuple [.tuple p.1, p.2]
mutual
theorem pf_parts : ∀ (path : List PyData) (d : PyData), (pf path d).map (·.2) = parts d
  | path, .tuple xs => by
    rw [pf, parts, List.map_cons, pfT_parts path xs]
  | path, .none => by rw [pf, parts]; rfl
  | path, .bool b => by rw [pf, parts]; rfl
  | path, .int b => by rw [pf, parts]; rfl
  | path, .str b => by rw [pf, parts]; rfl
  | path, .list b => by rw [pf, parts]; rfl
  | path, .dict b => by rw [pf, parts]; rfl
theorem pfT_parts : ∀ (path : List PyData) (d : List PyData), (pfT path d).map (·.2) = partsT d
  | path, [] => by rw [pfT, partsT]; rfl
  | path, _ :: r => by rw [pfT, partsT, pfL_parts path 0 r]
theorem pfL_parts : ∀ (path : List PyData) (k : Nat) (d : List PyData), (pfL path k d).map (·.2) = partsL d
  | path, k, [] => by rw [pfL, partsL]; rfl
  | path, k, a :: r => by rw [pfL, partsL, List.map_append, pf_parts _ a, pfL_parts path (k + 1) r]
end
mutual
theorem parts_len : ∀ d : PyData, (parts d).length = cnt d
  | .tuple xs => by rw [parts, cnt, List.length_cons, partsT_len xs]; omega
  | .none => by rw [parts, cnt]; rfl; all_goals (intros; simp_all)
  | .bool b => by rw [parts, cnt]; rfl; all_goals (intros; simp_all)
  | .int b => by rw [parts, cnt]; rfl; all_goals (intros; simp_all)
  | .str b => by rw [parts, cnt]; rfl; all_goals (intros; simp_all)
  | .list b => by rw [parts, cnt]; rfl; all_goals (intros; simp_all)
  | .dict b => by rw [parts, cnt]; rfl; all_goals (intros; simp_all)
theorem partsT_len : ∀ d : List PyData, (partsT d).length = cntT d
  | [] => by rw [partsT, cntT]; rfl
  | _ :: r => by rw [partsT, cntT, partsL_len r]
theorem partsL_len : ∀ d : List PyData, (partsL d).length = cntL d
  | [] => by rw [partsL, cntL]; rfl
  | a :: r => by rw [partsL, cntL, List.length_append, parts_len a, partsL_len r]
end
theorem pf_len (path : List PyData) (d : PyData) : (pf path d).length = cnt d := by
  rw [← parts_len, ← pf_parts path d, List.length_map]
theorem pfL_len (path : List PyData) (k : Nat) (d : List PyData) : (pfL path k d).length = cntL d := by
  rw [← partsL_len, ← pfL_parts path k d, List.length_map]
theorem cnt_pos : ∀ d : PyData, 1 ≤ cnt d := fun d => by
  cases d <;> rw [cnt] <;> first | omega | (intros; simp_all)
theorem lev_pos : ∀ d : PyData, 1 ≤ lev d := fun d => by
  cases d <;> rw [lev] <;> first | omega | (intros; simp_all)
theorem cntL_app : ∀ a b : List PyData, cntL (a ++ b) = cntL a + cntL b
  | [], b => by rw [cntL, List.nil_append]; omega
  | x :: a, b => by rw [List.cons_append, cntL, cntL, cntL_app a b]; omega
theorem levL_mem : ∀ {as : List PyData} {a : PyData}, a ∈ as → lev a ≤ levL as
  | x :: as, a, h => by
    rw [levL]
    rcases List.mem_cons.mp h with h | h
    · subst h; omega
    · have := levL_mem h; omega
theorem cntL_mem : ∀ {as : List PyData} {a : PyData}, a ∈ as → cnt a ≤ cntL as
  | x :: as, a, h => by
    rw [cntL]
    rcases List.mem_cons.mp h with h | h
    · subst h; omega
    · have := cntL_mem h; omega
theorem lev_app (s : Str) (as : List PyData) : lev (.tuple (.str s :: as)) = 1 + levL as := by rw [lev, levT]
theorem cnt_app (s : Str) (as : List PyData) : cnt (.tuple (.str s :: as)) = 1 + cntL as := by rw [cnt, cntT]
theorem parts_app (s : Str) (as : List PyData) : parts (.tuple (.str s :: as)) = .tuple (.str s :: as) :: partsL as := by rw [parts, partsT]
theorem pf_int (path : List PyData) (i : Int) : pf path (.int i) = [(path, .int i)] := by rw [pf]
theorem pf_app (path : List PyData) (s : Str) (as : List PyData) : pf path (.tuple (.str s :: as)) = (path, .tuple (.str s :: as)) :: pfL path 0 as := by rw [pf, pfT]
theorem pfL_snoc (path : List PyData) : ∀ (k : Nat) (as : List PyData) (a : PyData), pfL path k (as ++ [a]) = pfL path k as ++ pf (path ++ [.int ((k + as.length : Nat))]) a
  | k, [], a => by
    rw [List.nil_append, pfL, pfL, pfL, List.append_nil, List.nil_append]
    rfl
  | k, x :: as, a => by
    rw [List.cons_append, pfL, pfL, pfL_snoc path (k + 1) as a, List.append_assoc]
    rw [show k + 1 + as.length = k + (x :: as).length by rw [List.length_cons]; omega]
theorem cntL_take {as : List PyData} {i : Nat} {a : PyData} (h : as[i]? = some a) : cntL (as.take (i + 1)) = cntL (as.take i) + cnt a := by
  rw [List.take_succ, h, cntL_app]
  show _ + cntL [a] = _
  rw [cntL, cntL]
  omega
theorem cntL_le {as : List PyData} (i : Nat) : cntL (as.take i) ≤ cntL as := by
  have h := cntL_app (as.take i) (as.drop i)
  rw [List.take_append_drop] at h
  omega
/-- all parts of a term are terms -/
theorem Tm.cases_ {d : PyData} (h : Tm d) : (∃ n : Int, d = .int n ∧ 0 ≤ n ∧ n ≤ 999) ∨ ∃ s as, d = .tuple (.str s :: as) ∧ NameOk s ∧ as.length ≤ 9 ∧ ∀ a ∈ as, Tm a := by
  cases h with
  | blk n h0 h1 => exact .inl ⟨n, rfl, h0, h1⟩
  | app s as hs hl h => exact .inr ⟨s, as, rfl, hs, hl, h⟩
theorem partsL_mem : ∀ {as : List PyData} {p : PyData}, p ∈ partsL as → ∃ a ∈ as, p ∈ parts a
  | [], p, h => by rw [partsL] at h; cases h
  | a :: as, p, h => by
    rw [partsL] at h
    rcases List.mem_append.mp h with h | h
    · exact ⟨a, List.mem_cons_self, h⟩
    · obtain ⟨b, hb, hp⟩ := partsL_mem h
      exact ⟨b, List.mem_cons_of_mem _ hb, hp⟩
theorem parts_tm : ∀ (n : Nat) {d : PyData}, lev d ≤ n → Tm d → ∀ p ∈ parts d, Tm p ∧ lev p ≤ lev d ∧ cnt p ≤ cnt d
  | 0, d, h, _, _, _ => by have := lev_pos d; omega
  | n + 1, d, hn, h, p, hp => by
    rcases h.cases_ with ⟨i, rfl, _, _⟩ | ⟨s, as, rfl, hs, hl, ha⟩
    · rw [parts] at hp
      rw [List.mem_singleton.mp hp]
      exact ⟨h, Nat.le_refl _, Nat.le_refl _⟩
    · rw [parts_app] at hp
      rcases List.mem_cons.mp hp with e | hp
      · rw [e]
        exact ⟨h, Nat.le_refl _, Nat.le_refl _⟩
      · obtain ⟨a, hm, hp⟩ := partsL_mem hp
        have l1 := levL_mem hm
        have l2 := cntL_mem hm
        rw [lev_app] at hn ⊢
        rw [cnt_app]
        obtain ⟨h1, h2, h3⟩ := parts_tm n (by omega) (ha a hm) p hp
        exact ⟨h1, by omega, by omega⟩
theorem Tm.parts {d : PyData} (h : Tm d) {p : PyData} (hp : p ∈ parts d) : Tm p ∧ lev p ≤ lev d ∧ cnt p ≤ cnt d := parts_tm _ (Nat.le_refl _) h p hp
/-! heads -/
def headD : PyData → PyData
  | .tuple (a :: r) => .tuple [a, .int (r.length : Nat)]
  | _ => .none
def wholeD : PyData → Bool
  | .int _ => true
  | _ => false
/-! == of data without truths -/
mutual
def nb : PyData → Bool
  | .none => true
  | .int _ => true
  | .str _ => true
  | .tuple xs => nbL xs
  | .list xs => nbL xs
  | _ => false
def nbL : List PyData → Bool
  | [] => true
  | x :: r => nb x && nbL r
end
end Q

set_option Elab.async false
set_option linter.all false
set_option maxRecDepth 100000
set_option maxHeartbeats 4000000
/-! enumerate(a tuple) -/
namespace DL
open PySem PySem.Spec PyProof.Rows L2
open AutoSeq1 (wpAny_loadPart')
set_option maxHeartbeats 4000000 in
theorem meets_enum_one {v : Value} {o : Obj} {H : Heap → Prop} (B : Begins v o H) :
    Meets (Builtin.«enumerate.__new__» ⟨[.type "enumerate", v], []⟩) (fun _ R s => H s.heap ∧
      R (.ok (.ret (.ref (s.heap.push o).objs.size))) { s with heap := (s.heap.push o).push { cls := .type "enumerate", data := .fields #[.none, .bool false, .ref s.heap.objs.size, rawInt 0, .none, .none] } }) :=
  .of_wp fun prog w A R s h => by
    obtain ⟨hp, g, d, tk, os⟩ := s; obtain ⟨h1, h⟩ := h
    have hsub := sub_enumerate
    have q1 : ∀ {A' : Around} {E : Value → Shared → Prop} {Q : Value → Shared → Prop}, Q (.ref hp.objs.size) ⟨hp.push o, g, d, tk, os⟩ → wpAny (model prog w) A' (pyIter v) Q E ⟨hp, g, d, tk, os⟩ :=
      fun q => B.iter prog w _ _ ⟨hp, g, d, tk, os⟩ _ h1 q
    wp_walk using q1
    refine wpAny_stack_any fun st => wpAny_pure ?_
    split
    · rename_i c _ _ _ _ _
      cases (c == Value.type "enumerate")
      · wp_walk using q1
        exact ⟨_, rfl, h⟩
      · wp_walk using q1
        exact ⟨_, rfl, h⟩
    · wp_walk using q1
      exact ⟨_, rfl, h⟩
theorem enum_one {prog : Program} {w : World} {A : Around} {E : Value → Shared → Prop} {s : Shared} {v : Value} {o : Obj} {H : Heap → Prop} {Q : Value → Shared → Prop} (B : Begins v o H) (h1 : H s.heap)
    (h : ∀ h', IsEnum h' (s.heap.objs.size + 1) s.heap.objs.size 0 .none → h'.get? s.heap.objs.size = some o → h'.objs.size = s.heap.objs.size + 2 →
      (∀ b o, s.heap.get? b = some o → h'.get? b = some o) → Q (.ref (s.heap.objs.size + 1)) { s with heap := h' }) :
    wpAny (model prog w) A (call (.type "enumerate") [v]) Q E s := by
  refine callType_new F.called_enumerate (by decide) (F.typeCall_enumerate_1 _) (F.newCall_enumerate_1 _) (fun obj => F.args_object_init_2 obj _) F.entry_enumerate_new
    (meets_enum_one B) ⟨h1, ?_⟩
  have hz : (s.heap.push o).objs.size = s.heap.objs.size + 1 := Heap.size_push ..
  show _ ∧ _
  rw [hz]
  have he : IsEnum ((s.heap.push o).push { cls := .type "enumerate", data := .fields #[.none, .bool false, .ref s.heap.objs.size, rawInt 0, .none, .none] }) (s.heap.objs.size + 1) s.heap.objs.size 0 .none := by
    have := Heap.get?_push_size (s.heap.push o) (o := { cls := .type "enumerate", data := .fields #[.none, .bool false, .ref s.heap.objs.size, rawInt 0, .none, .none] }) rfl
    rw [hz] at this; exact this
  refine ⟨⟨_, he, rfl⟩, h _ he (Heap.get?_push_of_some _ (Heap.get?_push_size _ B.free)) (by rw [Heap.size_push, hz]) fun b o x => Heap.get?_push_of_some _ (Heap.get?_push_of_some _ x)⟩
def IteT (a : Addr) : It :=
  ⟨fun i H => ∃ (xs : List V) (x : V), H a = some (.tup xs) ∧ xs[i]? = some x, fun i H v H' => ∃ T x, v = .ref T ∧ H T = none ∧ H' = upd H T (.tup [.int (i : Nat), x]) ∧ ∀ xs, H a = some (.tup xs) → xs[i]? = some x, fun i H => ∃ xs : List V, H a = some (.tup xs) ∧ xs.length = i⟩
theorem turn_enumT {P : Program} {w : World} {K : PySem.W.Frag} {elts : List Expr} {kk : Nat} {tpos : Pos} (a e it : Addr) :
    Turn P w K (.Tuple elts kk tpos) (IteT a) [e, it] e (fun i h => (∃ old, IsEnum h e it ((i : Nat) : Int) old) ∧ h.IsTupleIter it a i ∧ e ≠ it) where
  mem := by simp
  obj := fun i h st b hb => by
    obtain ⟨⟨old, he⟩, ⟨o, ho, hc, hd⟩, _⟩ := st
    have e' : b = e ∨ b = it := by simpa using hb
    rcases e' with z | z
    · rw [z]; exact ⟨_, he, fun v q => nomatch q⟩
    · rw [z]; exact ⟨o, ho, fun v q => by rw [hd] at q; cases q⟩
  keep := fun i h h' st k => let ⟨⟨old, he⟩, hi, hne⟩ := st; ⟨⟨old, k e (by simp) _ he⟩, hi.at fun o q => k it (by simp) o q, hne⟩
  item := by
    intro X hP hw hK hc i pins s σ H E I hf st hg
    subst hP hw hK
    obtain ⟨⟨old, he⟩, hit, hne⟩ := st
    obtain ⟨xs, x, hq, hx⟩ := hg
    obtain ⟨its, rv, p, hz⟩ := I.tuple (SqT.of hq)
    obtain ⟨u, hu, ru⟩ := rv.get hx
    have hel : e < s.heap.objs.size := Heap.lt_size he
    have hil : it < s.heap.objs.size := by obtain ⟨_, q, _⟩ := hit; exact Heap.lt_size q
    have hea : e ≠ a := fun z => by
      have := (hf e (by simp)).1
      rw [z, hq] at this
      cases this
    have hia : a ≠ it := fun z => by
      have := (hf it (by simp)).1
      rw [← z, hq] at this
      cases this
    have hh : (X.A.in1).handled = none := I.ok.hd hc
    have hi : i < its.toArray.size := by
      rw [List.size_toArray]
      exact (List.getElem?_eq_some_iff.mp hu).1
    have hef : e ∉ [it, a] := fun z => by
      rcases List.mem_cons.mp z with z | z
      · exact hne z
      · exact hea (List.mem_singleton.mp z)
    refine wpAny_pyNext_enum_itemD (Draws.tuple hh it a hia its.toArray) he ⟨hit, p⟩ hi hne hef fun y h' tk hP ho hs' hT hsz hk => ?_
    have hy : y = u := by
      have hP' : its.toArray[i]? = some y := hP
      rw [List.getElem?_toArray, hu] at hP'
      exact (Option.some.inj hP').symm
    subst hy
    refine ⟨_, rfl, wpAny_letOwnedTupleGo_enum (s := { s with heap := h', toks := tk + 1 }) ho fun h'' he' sb => ?_⟩
    have hT2 : h''.get? s.heap.objs.size = some { cls := .type "tuple", data := .seq #[.int i tk, y] } := (sb.2 _ (Nat.ne_of_gt hel)).trans hT
    have new : ObjOk X.prog X.w (upd H s.heap.objs.size (.tup [.int (i : Nat), x])) h'' s.heap.objs.size (.tup [.int (i : Nat), x]) :=
      ⟨by show 2 ≤ sizeLine; decide, [.int i tk, y], .cons ⟨_, rfl⟩ (.cons ru .nil), ⟨_, hT2, rfl, _, rfl⟩⟩
    have I1 : Inv X pins σ (upd H s.heap.objs.size (.tup [.int (i : Nat), x])) { s with heap := h'', toks := tk + 1 } :=
      I.turnedNew (ch := [e, it]) (fun b ob hb q => (sb.2 b (fun z => hb (by simp [z]))).trans (hk b ob (fun z => hb (by simp [z])) (fun z => hb (by simp [z])) q)) hf (Nat.le_refl _) new
    refine ⟨.ref s.heap.objs.size, _, I1, rfl, ⟨_, x, rfl, I.hok.fresh (Nat.le_refl _), rfl, fun ys hy => by rw [hq] at hy; cases hy; exact hx⟩, ⟨⟨y, ?_⟩, hs'.1.at fun o q => (sb.2 it (Ne.symm hne)).trans q, hne⟩, fun b hb => ?_⟩
    · have e1 : ((i + 1 : Nat) : Int) = (i : Int) + 1 := by omega
      rw [e1]; exact he'
    · have hb' : b < s.heap.objs.size := by
        have e' : b = e ∨ b = it := by simpa using hb
        rcases e' with z | z
        · rw [z]; exact hel
        · rw [z]; exact hil
      rw [upd_ne (Nat.ne_of_lt hb')]
      exact (hf b hb).1
  done := by
    intro X hP hw hK hc i pins s σ H E I hf st hg
    subst hP hw hK
    obtain ⟨⟨old, he⟩, hit, hne⟩ := st
    obtain ⟨xs, hq, hx⟩ := hg
    obtain ⟨its, rv, p, hz⟩ := I.tuple (SqT.of hq)
    obtain ⟨f0, f1, f2, f3, f4, f5⟩ := hf it (by simp)
    have hl := rv.length
    have hh : (X.A.in1).handled = none := I.ok.hd hc
    have hia : a ≠ it := fun z => by
      rw [← z, hq] at f0
      cases f0
    have hi : i = its.toArray.size := by rw [List.size_toArray, ← hl]; exact hx.symm
    subst hi
    exact wpAny_pyNext_enum_endD (Draws.tuple hh it a hia its.toArray) he ⟨hit, p⟩ fun h' eb => ⟨rfl, I.turned (t' := s.toks) (fun b o hb q => eb b o hb q) f0 f1 f3 f4 f5⟩
  self := fun A i s Q E st h => let ⟨⟨_, he⟩, _⟩ := st; wpAny_pyIter_enum he h
def iEnumT (ta : TA) : TI := fun σ H R => ta σ H fun vs H1 => ∃ a xs, vs = [.ref a] ∧ H1 a = some (.tup xs) ∧ R (IteT a) H1
theorem pi_enumT {X : Cx} {e : Expr} {ta : TA} {p pos tpos : Pos} {elts : List Expr} {kk : Nat} (hg : Gl X "enumerate") (hm : X.mg "enumerate" = none) (ha : PA X [e] ta) (hs : starEach [e] X.env = [(false, eval e X.env)] := by rfl) :
    PI X (.Tuple elts kk tpos) (.Call (.Name "enumerate" p) [e] [] pos) (iEnumT ta) := by
  refine ⟨fun pins s σ H R I h => ?_⟩
  refine Call_ (ld_blt I hg hm boot_enumerate (PyProof.Rows.callWith_type1 (thn (ha.run pos pins s σ H _ I h) fun us s1 ⟨vs, H1, I1, r1, q1⟩ => ?_) hs rfl))
  obtain ⟨a, xs, ex, hq, q⟩ := q1
  subst ex
  cases r1 with
  | cons r rr =>
    cases rr
    cases r
    obtain ⟨its, rv, p', hz⟩ := I1.tuple (SqT.of hq)
    refine enum_one (begins_tuple a its.toArray) p' fun h' he hit hsz hk => wpAny_pyIter_enum he ?_
    have I2 : Inv X pins σ H1 { s1 with heap := h' } := I1.kept (t' := s1.toks) hk
    refine ⟨s1.heap.objs.size + 1, [s1.heap.objs.size + 1, s1.heap.objs.size], _, _, H1, rfl, I2, turn_enumT a (s1.heap.objs.size + 1) s1.heap.objs.size, ⟨⟨.none, he⟩, ⟨_, hit, rfl, rfl⟩, Nat.succ_ne_self _⟩, fun b hb => ?_, q⟩
    have e' : b = s1.heap.objs.size + 1 ∨ b = s1.heap.objs.size := by simpa using hb
    have hle : s1.heap.objs.size ≤ b := by
      rcases e' with z | z
      · rw [z]; exact Nat.le_add_right _ _
      · rw [z]; exact Nat.le_refl _
    exact I1.fpOk hle (I1.hok.fresh hle)
section
variable {X : Cx} {ρ : List Sl} {e : Expr} {ds : List PyData} {p pos tpos : Pos} {elts : List Expr} {kk : Nat}
theorem it_enumT (hm : X.mg "enumerate" = none) (h : EE X ρ e (D (.tuple ds))) (hg : Gl X "enumerate" := by rfl) (hs : starEach [e] X.env = [(false, eval e X.env)] := by rfl) :
    IT X ρ (.Tuple elts kk tpos) (.Call (.Name "enumerate" p) [e] [] pos) ((enumD 0 ds).map D) := fun F Hs H σ R E q => by
  refine RI.of (pi_enumT hg hm pa_RA hs) ?_
  refine (ea_cons h ea_nil hs) F Hs H σ _ E fun vs Hs1 H1 X1 hvs => ?_
  obtain ⟨v, rfl, hv⟩ := tys1 hvs
  obtain ⟨a, xs, rfl, ha, hd⟩ := dq_tup hv
  refine ⟨a, xs, rfl, X1.b _ _ ha, q _ _ _ X1 fun Hs2 H2 e1 e2 i hi => ?_⟩
  have hl := hd.length
  have hS : H2 a = some (.tup xs) := e2 _ _ (e1 _ _ ha)
  rw [List.length_map, enumD_length] at hi ⊢
  refine ⟨fun T hT => ?_, fun e => ⟨xs, hS, by omega⟩⟩
  rw [List.getElem?_map, enumD_at] at hT
  cases hd' : ds[i]? with
  | none => rw [hd'] at hT; cases hT
  | some d =>
    rw [hd'] at hT
    have eT := (Option.some.inj hT).symm
    subst eT
    obtain ⟨x, hx, hp⟩ := hd.at_ hd'
    refine ⟨⟨xs, x, hS, hx⟩, fun y H' z => ?_⟩
    obtain ⟨t, x', rfl, ht, rfl, z⟩ := z
    have ex := z xs hS
    rw [hx] at ex
    have ex' := Option.some.inj ex
    subst ex'
    refine ⟨_, Ext.new e2 ht, ?_⟩
    refine .tup upd_same (.cons ?_ (.cons (dq_mono (e1.trans ((Same.refl _).newU (e2.free ht))) _ _ hp) .nil))
    rw [Nat.zero_add]
    exact .int _
end
end DL

set_option Elab.async false
set_option linter.all false
set_option maxRecDepth 100000
set_option maxHeartbeats 4000000
namespace K53
open PySem PySem.Spec PyProof.Rows L2 DL Q
/-- what the module's names stand for -/
structure Bi (mg : Str → Option Value) : Prop where
  isinstance : mg "isinstance" = none
  len : mg "len" = none
  all : mg "all" = none
  any : mg "any" = none
  sorted : mg "sorted" = none
  set : mg "set" = none
  list : mg "list" = none
  tuple : mg "tuple" = none
  int : mg "int" = none
  str : mg "str" = none
  bool : mg "bool" = none
  divmod : mg "divmod" = none
  range : mg "range" = none
  enumerate : mg "enumerate" = none
  longest : ∃ t, mg "LONGEST_NAME" = some (.int 8 t)
  mblank : ∃ t, mg "MOST_BLANK" = some (.int 999 t)
  mplaces : ∃ t, mg "MOST_PLACES" = some (.int 9 t)
  mlevels : ∃ t, mg "MOST_LEVELS" = some (.int 60 t)
  mparts : ∃ t, mg "MOST_PARTS" = some (.int 1000 t)
  mchosen : ∃ t, mg "MOST_CHOSEN" = some (.int 60 t)
  mchoices : ∃ t, mg "MOST_CHOICES" = some (.int 3000 t)
  mrules : ∃ t, mg "MOST_RULES" = some (.int 40 t)
  letters : ∃ t, mg "LETTERS" = some (.str "abcdefghijklmnopqrstuvwxyz" t)
section
variable {P : Program} {w : World} {K : PySem.W.Frag} {mg : Str → Option Value} {base : Heap} {f : Addr} {fd : FuncData}
/-- a def by its promise and where it stands -/
theorem fn_mk {k : Nat} {x q : Str} {st : Stmt} {ps : List Str} {S : List Ty → Ty → Prop} (F : FnP K x q st f fd) (h : FnOk P w K mg base CX0 k f fd ps (spS S)) (hm : mg x = some (.ref f)) (b : Binds K fd ps []) : Fn P w K mg base k x S :=
  ⟨f, fd, ps, h, hm, F.kp, b⟩
/-! is_whole -/
def isIntD : PyData → Bool
  | .int _ => true
  | .bool _ => true
  | _ => false
def isBoolD : PyData → Bool
  | .bool _ => true
  | _ => false
def S_whole : List Ty → Ty → Prop := fun Ts T => ∃ d, Ts = [D d] ∧ T = D (.bool (wholeD d))
theorem kit_int : ∀ d : PyData, kitB (tyName d) "int" = some (isIntD d)
  | .none => (by decide +kernel : kitB "NoneType" "int" = some false)
  | .bool _ => (by decide +kernel : kitB "bool" "int" = some true)
  | .int _ => (by decide +kernel : kitB "int" "int" = some true)
  | .str _ => (by decide +kernel : kitB "str" "int" = some false)
  | .list _ => (by decide +kernel : kitB "list" "int" = some false)
  | .tuple _ => (by decide +kernel : kitB "tuple" "int" = some false)
  | .dict _ => (by decide +kernel : kitB "dict" "int" = some false)
theorem kit_bool : ∀ d : PyData, kitB (tyName d) "bool" = some (isBoolD d)
  | .none => (by decide +kernel : kitB "NoneType" "bool" = some false)
  | .bool _ => (by decide +kernel : kitB "bool" "bool" = some true)
  | .int _ => (by decide +kernel : kitB "int" "bool" = some false)
  | .str _ => (by decide +kernel : kitB "str" "bool" = some false)
  | .list _ => (by decide +kernel : kitB "list" "bool" = some false)
  | .tuple _ => (by decide +kernel : kitB "tuple" "bool" = some false)
  | .dict _ => (by decide +kernel : kitB "dict" "bool" = some false)
theorem sc_is_whole : FnScope ["thing"] ["thing"] (defScope sIsWhole) := ⟨rfl, rfl, rfl, by decide +kernel, rfl, by decide +kernel, by decide +kernel⟩
theorem ok_is_whole (B : Bi mg) (F : FnP K "is_whole" "is_whole" sIsWhole f fd) : FnOk P w K mg base CX0 1 f fd ["thing"] (spS S_whole) := by
  refine fn_ok F sc_is_whole (by rintro _ _ ⟨d, rfl, rfl⟩; rfl) ?_
  rintro cdv A outer s H E hr _ _ ⟨d, rfl, rfl⟩
  refine bb_ret ?_
  refine EE.d (ee_and (e_isi B.isinstance (ee_v 0 rfl) (ee_bty B.int boot_int) (kit_int d)) (fun _ => ee_one (ee_not (e_isi B.isinstance (ee_v 0 rfl) (ee_bty B.bool boot_bool) (kit_bool d))))) ?_
  cases d <;> rfl
/-! head -/
def S_head : List Ty → Ty → Prop := fun Ts T => ∃ d, Tm d ∧ Ts = [D d] ∧ T = D (headD d)
theorem sc_head : FnScope ["term"] ["term"] (defScope sHead) := ⟨rfl, rfl, rfl, by decide +kernel, rfl, by decide +kernel, by decide +kernel⟩
theorem ok_head (B : Bi mg) (G : Fn P w K mg base 1 "is_whole" S_whole) (F : FnP K "head" "head" sHead f fd) : FnOk P w K mg base CX0 2 f fd ["term"] (spS S_head) := by
  refine fn_ok F sc_head (by rintro _ _ ⟨d, _, rfl, rfl⟩; rfl) ?_
  rintro cdv A outer s H E hr _ _ ⟨d, hd, rfl, rfl⟩
  refine bb_if0 (et_val (ee_call G hr (ea_cons (ee_v 0 rfl) ea_nil) ⟨d, rfl, rfl⟩)) (fun e => ?_) (fun e => ?_)
  · refine bb_ret (EE.d ee_non ?_)
    cases d <;> first | rfl | cases e
  · rcases hd.cases_ with ⟨n, rfl, _, _⟩ | ⟨x, as, rfl, hs, hl, ha⟩
    · cases e
    · refine bb_ret (EE.d (ee_tup (ead_cons (e_ixT (ee_v 0 rfl) ee_int (at_ 0 rfl rfl)) (ead_cons (e_sub (e_lenT B.len (ee_v 0 rfl)) ee_int) ead_nil))) ?_)
      show PyData.tuple [.str x, .int (((as.length + 1 : Nat) : Int) - 1)] = .tuple [.str x, .int (as.length : Nat)]
      rw [show (((as.length + 1 : Nat) : Int) - 1) = ((as.length : Nat) : Int) by omega]
/-! is_name -/
theorem letters_in (c : Nat) (h1 : 97 ≤ c) (h2 : c ≤ 122) : decide (c ∈ ("abcdefghijklmnopqrstuvwxyz" : Str).cps.toList) = true := by
  have h : ∀ k ∈ List.range 26, decide (97 + k ∈ ("abcdefghijklmnopqrstuvwxyz" : Str).cps.toList) = true := by decide +kernel
  have := h (c - 97) (List.mem_range.mpr (by omega))
  rw [show 97 + (c - 97) = c by omega] at this
  exact this
def S_name : List Ty → Ty → Prop := fun Ts T => ∃ x, NameOk x ∧ Ts = [D (.str x)] ∧ T = D (.bool true)
theorem kit_str (x : Str) : kitB (tyName (.str x)) "str" = some true := (by decide +kernel : kitB "str" "str" = some true)
theorem sc_is_name : FnScope ["thing", "sign"] ["thing"] (defScope sIsName) := ⟨rfl, rfl, rfl, by decide +kernel, rfl, by decide +kernel, by decide +kernel⟩
theorem ok_is_name (B : Bi mg) (F : FnP K "is_name" "is_name" sIsName f fd) : FnOk P w K mg base CX0 1 f fd ["thing"] (spS S_name) := by
  refine fn_ok F sc_is_name (by rintro _ _ ⟨d, _, rfl, rfl⟩; rfl) ?_
  rintro cdv A outer s H E hr _ _ ⟨x, ⟨h1, h2, h3⟩, rfl, rfl⟩
  have e1 : decide (((x.length : Nat) : Int) < 1) = false := decide_eq_false (by omega)
  have e2 : decide ((8 : Int) < ((x.length : Nat) : Int)) = false := decide_eq_false (by omega)
  refine bb_skip (ET.to (EW.t (ew_or (et_not (et_val (e_isi B.isinstance (ee_v 0 rfl) (ee_bty B.str boot_str) (kit_str x)))) fun _ => ew_or (t_ltI (e_lenS B.len (ee_v 0 rfl) (by omega)) ee_int) fun _ => ew_or1 (t_gtI (e_lenS B.len (ee_v 0 rfl) (by omega)) (ee_globI B.longest)))) (by rw [e1, e2]; rfl)) ?_
  have el : (x.cps.toList.map fun _ => PyData.bool true).length = (charsT x).length := by unfold charsT; rw [List.length_map, List.length_map]
  have hz : (charsT x).length ≤ 100000 := by
    unfold charsT
    rw [List.length_map, Array.length_toList]
    exact Nat.le_trans h2 (by decide)
  refine bb_ret (EE.d (e_all (bs := x.cps.toList.map fun _ => true) rfl B.all (EE.d (EO.d (o_lc (own := [("sign", 1)]) (x.cps.toList.map fun _ => PyData.bool true) rfl sc_is_name.nd (it_str (ee_v 0 rfl)) (blkOk_by (N := ["thing", "sign"]) (sc := defScope sIsName) (by decide +kernel)) el hz fun i T d hT hd => ?_)) ?_)) ?_)
  · unfold charsT at hT
    rw [List.getElem?_map] at hT hd
    cases e : x.cps.toList[i]? with
    | none => rw [e] at hT; cases hT
    | some c =>
      rw [e] at hT hd
      rw [← Option.some.inj hT, ← Option.some.inj hd]
      obtain ⟨g1, g2⟩ := h3 c (List.mem_of_getElem? e)
      exact turn_keep (fun s H C cl fp => gg_name 1 sc_is_name.nd rfl (.inl rfl)) fun s H C cl fp => EE.d (e_inS (ee_v 1 rfl) (ee_globS B.letters)) (by rw [letters_in c g1 g2])
  · rw [List.map_map]
    rfl
  · rw [List.all_map]
    have : (x.cps.toList.all (_root_.id ∘ fun _ => true)) = true := List.all_eq_true.mpr fun _ _ => rfl
    rw [this]
/-! is_head -/
def S_ishead : List Ty → Ty → Prop := fun Ts T => ∃ (x : Str) (n : Int), NameOk x ∧ 0 ≤ n ∧ n ≤ 9 ∧ Ts = [D (.tuple [.str x, .int n])] ∧ T = D (.bool true)
theorem kit_tup (xs : List PyData) : kitB (tyName (.tuple xs)) "tuple" = some true := (by decide +kernel : kitB "tuple" "tuple" = some true)
theorem sc_is_head : FnScope ["thing"] ["thing"] (defScope sIsHead) := ⟨rfl, rfl, rfl, by decide +kernel, rfl, by decide +kernel, by decide +kernel⟩
theorem ok_is_head (B : Bi mg) (G1 : Fn P w K mg base 1 "is_whole" S_whole) (G2 : Fn P w K mg base 1 "is_name" S_name) (F : FnP K "is_head" "is_head" sIsHead f fd) : FnOk P w K mg base CX0 2 f fd ["thing"] (spS S_ishead) := by
  refine fn_ok F sc_is_head (by rintro _ _ ⟨_, _, _, _, _, rfl, rfl⟩; rfl) ?_
  rintro cdv A outer s H E hr _ _ ⟨x, n, hx, h0, h9, rfl, rfl⟩
  refine bb_skip (ET.to (EW.t (ew_or (et_not (et_val (e_isi B.isinstance (ee_v 0 rfl) (ee_bty B.tuple boot_tuple) (kit_tup _)))) fun _ => ew_or (t_neI (e_lenT B.len (ee_v 0 rfl)) ee_int) fun _ => ew_or1 (et_not (et_val (ee_call G2 hr (ea_cons (e_ixT (ee_v 0 rfl) ee_int (at_ 0 rfl rfl)) ea_nil) ⟨x, hx, rfl, rfl⟩))))) rfl) ?_
  refine bb_ret (EE.d (ee_and (ee_call G1 hr (ea_cons (e_ixT (ee_v 0 rfl) ee_int (at_ 1 rfl rfl)) ea_nil) ⟨_, rfl, rfl⟩) fun _ => ee_one (ee_chain op_le op_le ee_int (e_ixT (ee_v 0 rfl) ee_int (at_ 1 rfl rfl)) (ee_globI B.mplaces) r2_bool fun _ => r2_bool)) ?_)
  rw [decide_eq_true h0, decide_eq_true h9]
  rfl
/-! parts_within: by the levels -/
def S_pw (n : Nat) : List Ty → Ty → Prop := fun Ts T => ∃ (d : PyData) (r : Int), Tm d ∧ lev d ≤ n ∧ (lev d : Int) ≤ r ∧ cnt d ≤ 1000 ∧ Ts = [D d, D (.int r)] ∧ T = D (.int (cnt d : Nat))
theorem sc_parts_within : FnScope ["thing", "room", "many", "place", "more"] ["thing", "room"] (defScope sPartsWithin) := ⟨rfl, rfl, rfl, by decide +kernel, rfl, by decide +kernel, by decide +kernel⟩
theorem ok_parts_within (B : Bi mg) (G1 : Fn P w K mg base 1 "is_whole" S_whole) (G2 : Fn P w K mg base 1 "is_name" S_name) (F : FnP K "parts_within" "parts_within" sPartsWithin f fd) (hm : mg "parts_within" = some (.ref f)) (b : Binds K fd ["thing", "room"] []) :
    ∀ n : Nat, FnOk P w K mg base CX0 (n + 1) f fd ["thing", "room"] (spS (S_pw n))
  | 0 => by
    refine fn_ok F sc_parts_within (by rintro _ _ ⟨_, _, _, _, _, _, rfl, rfl⟩; rfl) ?_
    rintro cdv A outer s H E hr _ _ ⟨d, r, _, h, _⟩
    have := lev_pos d
    omega
  | n + 1 => by
    have ih : Fn P w K mg base (n + 1) "parts_within" (S_pw n) := fn_mk F (ok_parts_within B G1 G2 F hm b n) hm b
    refine fn_ok F sc_parts_within (by rintro _ _ ⟨_, _, _, _, _, _, rfl, rfl⟩; rfl) ?_
    rintro cdv A outer s H E hr _ _ ⟨d, r, hd, hn, hr0, hc, rfl, rfl⟩
    have h1 : Room 1 _ := hr.mono (by omega)
    have hp := lev_pos d
    refine bb_skip (ET.to (t_eqI (ee_v 1 rfl) ee_int) (decide_eq_false (by omega))) ?_
    rcases hd.cases_ with ⟨i, rfl, h0, h9⟩ | ⟨x, as, rfl, hs, hl, ha⟩
    · refine bb_if0 (et_val (ee_call G1 h1 (ea_cons (ee_v 0 rfl) ea_nil) ⟨_, rfl, rfl⟩)) (fun _ => ?_) (fun e => nomatch e)
      refine bb_ret (EE.d (e_intB B.int (ee_chain op_le op_le ee_int (ee_v 0 rfl) (ee_globI B.mblank) r2_bool fun _ => r2_bool)) ?_)
      rw [decide_eq_true h0, decide_eq_true h9]
      rw [Q.cnt]
      · rfl
      · intros; simp_all
    · refine bb_skip (ET.to (et_val (ee_call G1 h1 (ea_cons (ee_v 0 rfl) ea_nil) ⟨_, rfl, rfl⟩)) rfl) ?_
      have e1 : decide ((((PyData.str x :: as).length : Nat) : Int) < 1) = false := decide_eq_false (by rw [List.length_cons]; omega)
      have e2 : decide ((1 : Int) + 9 < (((PyData.str x :: as).length : Nat) : Int)) = false := decide_eq_false (by rw [List.length_cons]; omega)
      refine bb_skip (ET.to (EW.t (ew_or (et_not (et_val (e_isi B.isinstance (ee_v 0 rfl) (ee_bty B.tuple boot_tuple) (kit_tup _)))) fun _ => ew_or (t_ltI (e_lenT B.len (ee_v 0 rfl)) ee_int) fun _ => ew_or (t_gtI (e_lenT B.len (ee_v 0 rfl)) (e_add ee_int (ee_globI B.mplaces))) fun _ =>
        ew_or1 (et_not (et_val (ee_call G2 h1 (ea_cons (e_ixT (ee_v 0 rfl) ee_int (at_ 0 rfl rfl)) ea_nil) ⟨x, hs, rfl, rfl⟩))))) (by rw [e1, e2]; rfl)) ?_
      refine bb_set 2 sc_parts_within.nd rfl (.inl rfl) ee_int ?_
      have hcut : cutP (PyData.str x :: as) (some 1) none = as := by
        unfold cutP
        rw [show HT.sIx (PyData.str x :: as).length 0 (some 1) = 1 from (HT.sIx_nat _ _ 1).trans (by rw [List.length_cons]; omega), HT.sIx_none]
        show (as).take _ = as
        rw [List.length_cons, Nat.add_sub_cancel, List.take_length]
      rw [lev_app] at hn hr0
      rw [cnt_app] at hc ⊢
      refine bb_for (fun i ρ => ∃ v m : Sl, ρ = [.va (D (.tuple (.str x :: as))), .va (D (.int r)), .va (D (.int (1 + cntL (as.take i) : Nat))), v, m]) PassesOwn.never rfl (it_tupD (EE.d (ee_sl sl_tupA (ee_v 0 rfl) (ep_some ee_int) ep_none rs_T) (by rw [hcut]))) ⟨_, _, by
        show _ = [_, _, Sl.va (D (.int (1 + cntL [] : Nat))), _, _]
        rw [cntL]; rfl⟩ ?_ ?_
      · rintro i T ρ' hT ⟨v, m, rfl⟩
        rw [List.getElem?_map] at hT
        cases hi : as[i]? with
        | none => rw [hi] at hT; cases hT
        | some a =>
          rw [hi] at hT
          rw [← Option.some.inj hT]
          have hm := List.mem_of_getElem? hi
          have l1 := levL_mem hm
          have l2 := cntL_take hi
          have l3 := cntL_le (as := as) (i + 1)
          have l4 := cnt_pos a
          refine ⟨_, _, gg_name 3 sc_parts_within.nd rfl (.inl rfl), ?_⟩
          refine bb_set 4 sc_parts_within.nd rfl (.inl rfl) (ee_call ih hr (ea_cons (ee_v 3 rfl) (ea_cons (e_sub (ee_v 1 rfl) ee_int) ea_nil)) ⟨a, r - 1, ha a hm, by omega, by omega, by omega, rfl, rfl⟩) ?_
          refine bb_aug 2 iop_add sc_parts_within.nd rfl (.inl rfl) rfl (ee_v 4 rfl) r2_int ?_
          refine bb_skip (ET.to (EW.t (ew_or (t_eqI (ee_v 4 rfl) ee_int) fun _ => ew_or1 (t_gtI (ee_v 2 rfl) (ee_globI B.mparts)))) ?_) ?_
          · rw [decide_eq_false (show ¬ ((cnt a : Nat) : Int) = 0 by omega), decide_eq_false (show ¬ (1000 : Int) < ((1 + cntL (as.take i) : Nat) : Int) + ((cnt a : Nat) : Int) by omega)]
            rfl
          · refine bb_nil ⟨.va (D a), .va (D (.int (cnt a : Nat))), ?_⟩
            rw [l2]
            show [_, _, Sl.va (D (.int (((1 + cntL (as.take i) : Nat) : Int) + ((cnt a : Nat) : Int)))), _, _] = _
            rw [show (((1 + cntL (as.take i) : Nat) : Int) + ((cnt a : Nat) : Int)) = ((1 + (cntL (as.take i) + cnt a) : Nat) : Int) by omega]
      · rintro ρ' ⟨v, m, rfl⟩
        rw [List.length_map, List.take_length]
        exact bb_ret (ee_v 2 rfl)
end
end K53

set_option Elab.async false
set_option linter.all false
set_option maxRecDepth 100000
set_option maxHeartbeats 4000000
namespace K53
open PySem PySem.Spec PyProof.Rows L2 DL Q
section
variable {P : Program} {w : World} {K : PySem.W.Frag} {mg : Str → Option Value} {base : Heap} {f : Addr} {fd : FuncData}
/-! is_term -/
def S_isterm : List Ty → Ty → Prop := fun Ts T => ∃ d : PyData, Tm d ∧ lev d ≤ 8 ∧ cnt d ≤ 1000 ∧ Ts = [D d] ∧ T = D (.bool true)
theorem sc_is_term : FnScope ["thing"] ["thing"] (defScope sIsTerm) := ⟨rfl, rfl, rfl, by decide +kernel, rfl, by decide +kernel, by decide +kernel⟩
theorem ok_is_term (B : Bi mg) (G : Fn P w K mg base 9 "parts_within" (S_pw 8)) (F : FnP K "is_term" "is_term" sIsTerm f fd) : FnOk P w K mg base CX0 10 f fd ["thing"] (spS S_isterm) := by
  refine fn_ok F sc_is_term (by rintro _ _ ⟨_, _, _, _, rfl, rfl⟩; rfl) ?_
  rintro cdv A outer s H E hr _ _ ⟨d, hd, h1, h2, rfl, rfl⟩
  have := cnt_pos d
  exact bb_ret (EE.d (e_gtI (ee_call G hr (ea_cons (ee_v 0 rfl) (ea_cons (ee_globI B.mlevels) ea_nil)) ⟨d, 60, hd, h1, by omega, h2, rfl, rfl⟩) ee_int) (by rw [decide_eq_true (by omega)]))
/-! parts_from: by the levels -/
theorem cut_one (x : PyData) (as : List PyData) : cutP (x :: as) (some 1) none = as := by
  unfold cutP
  rw [show HT.sIx (x :: as).length 0 (some 1) = 1 from (HT.sIx_nat _ _ 1).trans (by rw [List.length_cons]; omega), HT.sIx_none]
  show (as).take _ = as
  rw [List.length_cons, Nat.add_sub_cancel, List.take_length]
def S_pf (n : Nat) : List Ty → Ty → Prop := fun Ts T => ∃ (d : PyData) (path : List PyData), Tm d ∧ lev d ≤ n ∧ cnt d ≤ 1000 ∧ path.length + lev d ≤ 1000 ∧ Ts = [D d, D (.tuple path)] ∧ T = D (.list ((pf path d).map pthD))
theorem sc_parts_from : FnScope ["term", "path", "found", "k", "place"] ["term", "path"] (defScope sPartsFrom) := ⟨rfl, rfl, rfl, by decide +kernel, rfl, by decide +kernel, by decide +kernel⟩
theorem ok_parts_from (B : Bi mg) (G1 : Fn P w K mg base 1 "is_whole" S_whole) (F : FnP K "parts_from" "parts_from" sPartsFrom f fd) (hm : mg "parts_from" = some (.ref f)) (b : Binds K fd ["term", "path"] []) :
    ∀ n : Nat, FnOk P w K mg base CX0 (n + 1) f fd ["term", "path"] (spS (S_pf n))
  | 0 => by
    refine fn_ok F sc_parts_from (by rintro _ _ ⟨_, _, _, _, _, _, rfl, rfl⟩; rfl) ?_
    rintro cdv A outer s H E hr _ _ ⟨d, r, _, h, _⟩
    have := lev_pos d
    omega
  | n + 1 => by
    have ih : Fn P w K mg base (n + 1) "parts_from" (S_pf n) := fn_mk F (ok_parts_from B G1 F hm b n) hm b
    refine fn_ok F sc_parts_from (by rintro _ _ ⟨_, _, _, _, _, _, rfl, rfl⟩; rfl) ?_
    rintro cdv A outer s H E hr _ _ ⟨d, path, hd, hn, hc, hp, rfl, rfl⟩
    have h1 : Room 1 _ := hr.mono (by omega)
    refine bb_setO 2 sc_parts_from.nd rfl (.inl rfl) (eo_lst (ead_cons (ee_tup (ead_cons (ee_v 1 rfl) (ead_cons (ee_v 0 rfl) ead_nil))) ead_nil)) ?_
    rcases hd.cases_ with ⟨i, rfl, h0, h9⟩ | ⟨x, as, rfl, hs, hl, ha⟩
    · refine bb_skip (ET.to (et_not (et_val (ee_call G1 h1 (ea_cons (ee_v 0 rfl) ea_nil) ⟨_, rfl, rfl⟩))) rfl) ?_
      refine bb_fixL 2 rfl (bb_ret (EE.d (ee_v 2 rfl) ?_))
      rw [pf_int]
      rfl
    · have hca := hc
      rw [cnt_app] at hc
      rw [lev_app] at hn hp
      rw [pf_app]
      refine bb_if0 (ET.to (et_not (et_val (ee_call G1 h1 (ea_cons (ee_v 0 rfl) ea_nil) ⟨_, rfl, rfl⟩))) (k' := true) rfl) (fun _ => ?_) (fun e => nomatch e)
      refine bb_for (fun i ρ => ∃ v m : Sl, ρ = [.va (D (.tuple (.str x :: as))), .va (D (.tuple path)), .ow (OwnL (pthD (path, .tuple (.str x :: as)) :: (pfL path 0 (as.take i)).map pthD)), v, m]) PassesOwn.never rfl
        (it_enumT B.enumerate (EE.d (ee_sl sl_tupA (ee_v 0 rfl) (ep_some ee_int) ep_none rs_T) (by rw [cut_one]))) ⟨_, _, rfl⟩ ?_ ?_
      · rintro i T ρ' hT ⟨v, m, rfl⟩
        rw [List.getElem?_map, enumD_at] at hT
        cases hi : as[i]? with
        | none => rw [hi] at hT; cases hT
        | some a =>
          rw [hi] at hT
          rw [← Option.some.inj hT]
          have hm := List.mem_of_getElem? hi
          have l1 := levL_mem hm
          have l2 := cntL_take hi
          have l3 := cntL_le (as := as) (i + 1)
          have l4 := lev_pos a
          have hil : i < as.length := (List.getElem?_eq_some_iff.mp hi).1
          refine ⟨_, _, gg_pair rfl (gg_name 3 sc_parts_from.nd rfl (.inl rfl)) (gg_name 4 sc_parts_from.nd rfl (.inl rfl)), ?_⟩
          refine bb_extend 2 rfl ?_ (ee_call ih hr (ea_cons (ee_v 4 rfl) (ea_cons (e_catT (ee_v 1 rfl) (ee_tup (ead_cons (ee_v 3 rfl) ead_nil)) ?_) ea_nil)) ⟨a, path ++ [.int (i : Nat)], ha a hm, by omega, by omega, ?_, by rw [Nat.zero_add], rfl⟩) ?_
          · rw [List.length_cons, List.length_map, List.length_map, pfL_len, pf_len]
            omega
          · show path.length + 1 ≤ 100000
            omega
          · rw [List.length_append, List.length_singleton]
            omega
          · refine bb_nil ⟨.va (D (.int (0 + i : Nat))), .va (D a), ?_⟩
            rw [List.take_succ, hi]
            show _ = [_, _, Sl.ow (OwnL (pthD (path, .tuple (.str x :: as)) :: (pfL path 0 (as.take i ++ [a])).map pthD)), _, _]
            rw [pfL_snoc, List.map_append, List.length_take, Nat.min_eq_left (Nat.le_of_lt hil), Nat.zero_add]
            rfl
      · rintro ρ' ⟨v, m, rfl⟩
        rw [List.length_map, enumD_length, List.take_length]
        exact bb_nil (bb_fixL 2 rfl (bb_ret (ee_v 2 rfl)))
def S_parts : List Ty → Ty → Prop := fun Ts T => ∃ (d : PyData), Tm d ∧ lev d ≤ 8 ∧ cnt d ≤ 1000 ∧ Ts = [D d] ∧ T = D (.list ((pf [] d).map pthD))
theorem sc_parts_of : FnScope ["term"] ["term"] (defScope sPartsOf) := ⟨rfl, rfl, rfl, by decide +kernel, rfl, by decide +kernel, by decide +kernel⟩
theorem ok_parts_of (G : Fn P w K mg base 9 "parts_from" (S_pf 8)) (F : FnP K "parts_of" "parts_of" sPartsOf f fd) : FnOk P w K mg base CX0 10 f fd ["term"] (spS S_parts) := by
  refine fn_ok F sc_parts_of (by rintro _ _ ⟨_, _, _, _, rfl, rfl⟩; rfl) ?_
  rintro cdv A outer s H E hr _ _ ⟨d, hd, h1, h2, rfl, rfl⟩
  exact bb_ret (ee_call G hr (ea_cons (ee_v 0 rfl) (ea_cons (ee_tup ead_nil) ea_nil)) ⟨d, [], hd, h1, h2, by show 0 + lev d ≤ 1000; omega, rfl, rfl⟩)
end
end K53

set_option Elab.async false
set_option linter.all false
set_option maxRecDepth 100000
set_option maxHeartbeats 4000000
/-! sorted -/
namespace DL
open PySem PySem.W PySem.Spec PyProof.Rows L2
/-- the order of data -/
def dle : PyData → PyData → Bool := dataLe false (fun d : PyData => d)
theorem each_vals {H : Hp} : ∀ {xs : List V} {ds : List PyData} {us : List Value}, DqAll H xs ds → Vals xs us → EachIs (fun (u : Value) (b : V × PyData) => RelV b.1 u ∧ Dq H b.1 b.2) us (xs.zip ds)
  | _, [], _, h, r => by cases h; cases r; exact .nil
  | _, d :: ds, _, h, r => by
    cases h with
    | cons h1 h2 =>
      cases r with
      | cons r1 r2 => exact .cons ⟨r1, h1⟩ (each_vals h2 r2)
theorem vals_each {H : Hp} : ∀ {bs : List (V × PyData)} {us : List Value}, EachIs (fun (u : Value) (b : V × PyData) => RelV b.1 u ∧ Dq H b.1 b.2) us bs → Vals (bs.map (·.1)) us ∧ DqAll H (bs.map (·.1)) (bs.map (·.2))
  | _, _, .nil => ⟨.nil, .nil⟩
  | _, _, .cons h t => ⟨.cons h.1 (vals_each t).1, .cons h.2 (vals_each t).2⟩
theorem zip_snd {α β : Type} : ∀ {xs : List α} {ys : List β}, xs.length = ys.length → (xs.zip ys).map (·.2) = ys
  | [], [], _ => rfl
  | x :: xs, y :: ys, h => by
    rw [List.zip_cons_cons, List.map_cons, zip_snd (by simpa using h)]
  | [], _ :: _, h => by simp at h
  | _ :: _, [], h => by simp at h
/-- what can be sorted -/
structure SortOk (ds : List PyData) : Prop where
  al : AllAlike ds
  so : Sortable ds
  ln : ds.length ≤ 10000
  dp : ∀ d ∈ ds, d.depth ≤ 20
section
variable {X : Cx} {pins : List (Addr × Obj)} {σ : L2.St} {H : Hp} {s : Shared} {xs : List V} {ds : List PyData} {us : List Value}
theorem dq_reads (I : Inv X pins σ H s) {v : V} {u : Value} {d : PyData} (h : Dq H v d) (r : RelV v u) : ∃ as, Reads s.heap u d as := Dp.reads I d v u (Dq.dp d v h) r
theorem each_reads (I : Inv X pins σ H s) {us : List Value} {bs : List (V × PyData)} (e : EachIs (fun (u : Value) (b : V × PyData) => RelV b.1 u ∧ Dq H b.1 b.2) us bs) : EachIs (fun u b => ∃ as, Reads s.heap u b.2 as) us bs :=
  e.mono fun u b h => dq_reads I h.2 h.1
theorem map_zip {xs : List V} {ds : List PyData} (h : xs.length = ds.length) : (xs.zip ds).map (fun b : V × PyData => b.2) = ds := zip_snd h
theorem sort_zip {xs : List V} {ds : List PyData} (h : xs.length = ds.length) : ((xs.zip ds).mergeSort (dataLe false fun b : V × PyData => b.2)).map (·.2) = ds.mergeSort dle := by
  have e := sort_maps (r := dataLe false fun b : V × PyData => b.2) (s := dle) (fun b : V × PyData => b.2) (l := xs.zip ds) (fun _ _ _ _ => rfl)
  rw [map_zip h] at e
  exact e
def rSortD : List V → Hp → VK → Prop := fun vs H Q => ∃ (a : Addr) (xs : List V) (ds : List PyData), vs = [.ref a] ∧ H a = some (.lst xs) ∧ DqAll H xs ds ∧ SortOk ds ∧ ∀ ys p, H p = none → DqAll H ys (ds.mergeSort dle) → Q (.ref p) (upd H p (.lst ys))
/-- sorted(a list) -/
theorem cr_sortD (hu : X.A.units + 64 < cLine) : CallR X (.builtin "sorted") rSortD := by
  intro pins s σ H vs us Q I r h
  obtain ⟨a, xs, ds, rfl, ha, hd, ok, q⟩ := h
  obtain ⟨u, rfl, rx⟩ := vals1 r
  cases rx
  obtain ⟨its, rv, pl, hz⟩ := I.list (SqL.of ha)
  have hl := hd.length
  have e := each_vals hd rv
  have hm := map_zip hl
  have hsl : sizeLine = 16777216 := sizeLine_eq
  have hlz : (xs.zip ds).length ≤ sizeLine := by
    rw [List.length_zip]
    have := ok.ln
    omega
  refine sorted_data (enc := fun b : V × PyData => b.2) pl.isList e (each_reads I e) (by rw [hm]; exact ok.al) (by rw [hm]; exact ok.so) hlz (fun b hb => ?_) fun out hlen eo => ?_
  · have hbd : b.2 ∈ ds := by
      rw [← hm]
      exact List.mem_map.mpr ⟨b, hb, rfl⟩
    have := ok.dp b.2 hbd
    omega
  · obtain ⟨v1, v2⟩ := vals_each eo
    rw [sort_zip hl] at v2
    obtain ⟨e', he'⟩ := PyProof.Rows.sortedAll_at s.heap its out.toArray
    have hn : H (s.heap.objs.size + 1) = none := I.hok.fresh (Nat.le_succ _)
    have hyl : (((xs.zip ds).mergeSort (dataLe false fun b : V × PyData => b.2)).map (·.1)).length ≤ sizeLine := by
      rw [List.length_map, List.length_mergeSort]
      exact hlz
    refine ⟨.ref (s.heap.objs.size + 1), _, I.laid (t' := s.toks) (a := s.heap.objs.size + 1) (o := .lst (((xs.zip ds).mergeSort (dataLe false fun b : V × PyData => b.2)).map (·.1))) (fun b o z => PyProof.Rows.sortedAll_old z) (Nat.le_succ _) ?_, rfl, q _ _ hn v2⟩
    exact ⟨hyl, out, e', v1, he'⟩
/-- the sort of what was collected: a new list, then list.sort -/
theorem sort_collected {A : Around} (hA : A.units + 40 < cLine) {s0 : Shared} {us : List Value} {xs : List V} {ds : List PyData} {h' : Heap} {tk : Nat} {Q : Value → Shared → Prop} {E : Value → Shared → Prop} (I1 : Inv X pins σ H { s0 with heap := h', toks := tk }) (hd : DqAll H xs ds) (rv : Vals xs us) (ok : SortOk ds)
    (noL : ∀ b ∈ xs.zip ds, ∀ u as, RelV b.1 u → Reads (h'.push (seqObj "list" us.toArray 0)) u b.2 as → h'.objs.size ∉ as)
    (hq : ∀ (ys : List V) (s1 : Shared), DqAll H ys (ds.mergeSort dle) → Inv X pins σ (upd H h'.objs.size (.lst ys)) s1 → Q .none s1) :
    wpAny (model X.prog X.w) A (call (.builtin "list.sort") [.ref h'.objs.size]) Q E { s0 with heap := h'.push (seqObj "list" us.toArray 0), toks := tk } := by
  have hoL : (h'.push (seqObj "list" us.toArray 0)).get? h'.objs.size = some (seqObj "list" us.toArray 0) := Heap.get?_push_size _ rfl
  have hl := hd.length
  have e := each_vals hd rv
  have hm := map_zip hl
  have hsl : sizeLine = 16777216 := sizeLine_eq
  have hlz : (xs.zip ds).length ≤ sizeLine := by
    rw [List.length_zip]
    have := ok.ln
    omega
  have I2 : Inv X pins σ H { s0 with heap := h'.push (seqObj "list" us.toArray 0), toks := tk } := I1.kept (t' := tk) fun b o z => Heap.get?_push_of_some _ z
  have er : EachIs (fun u (b : V × PyData) => ∃ as, Reads (h'.push (seqObj "list" us.toArray 0)) u b.2 as ∧ h'.objs.size ∉ as) us (xs.zip ds) := (each_mem e).mono fun u b ⟨h, hb⟩ => by
    obtain ⟨as, r⟩ := dq_reads I2 h.2 h.1
    exact ⟨as, r, noL b hb u as h.1 r⟩
  refine list_sort_data (enc := fun b : V × PyData => b.2) hoL e er (by rw [hm]; exact ok.al) (by rw [hm]; exact ok.so) hlz (fun b hb => ?_) fun out hlen eo => ?_
  · have hbd : b.2 ∈ ds := by
      rw [← hm]
      exact List.mem_map.mpr ⟨b, hb, rfl⟩
    have := ok.dp b.2 hbd
    omega
  · obtain ⟨v1, v2⟩ := vals_each eo
    rw [sort_zip hl] at v2
    obtain ⟨e', he'⟩ := PyProof.Rows.sortedHeap_at (vs := us) (out := out.toArray) hoL
    have hyl : (((xs.zip ds).mergeSort (dataLe false fun b : V × PyData => b.2)).map (·.1)).length ≤ sizeLine := by
      rw [List.length_map, List.length_mergeSort]
      exact hlz
    refine hq _ _ v2 (I1.laid (t' := tk) (a := h'.objs.size) (o := .lst (((xs.zip ds).mergeSort (dataLe false fun b : V × PyData => b.2)).map (·.1))) (fun b o z => ?_) (Nat.le_refl _) ⟨hyl, out, e', v1, he'⟩)
    have hb : b < h'.objs.size := Heap.lt_size z
    rw [PyProof.Rows.sortedHeap_old (Nat.ne_of_lt hb) (by rw [size_push']; exact Nat.lt_succ_of_lt hb)]
    exact Heap.get?_push_of_some _ z
/-! data without lists reads no address -/
mutual
theorem reads_no {h : Heap} : ∀ (d : PyData) (u : Value) (as : List Addr), noList d = true → Reads h u d as → as = []
  | .none, _, _, _, r => by cases r; rfl
  | .bool _, _, _, _, r => by cases r; rfl
  | .int _, _, _, _, r => by cases r; rfl
  | .str _, _, _, _, r => by cases r; rfl
  | .tuple xs, _, _, n, r => by
    cases r with
    | tuple h1 h2 h3 h4 => exact readsAll_no xs _ _ (by simpa [noList] using n) h4
  | .list _, _, _, n, _ => by simp [noList] at n
  | .dict _, _, _, n, _ => by simp [noList] at n
theorem readsAll_no {h : Heap} : ∀ (ds : List PyData) (us : List Value) (as : List Addr), noLists ds = true → ReadsAll h us ds as → as = []
  | [], _, _, _, r => by cases r; rfl
  | d :: ds, _, _, n, r => by
    have n' : noList d = true ∧ noLists ds = true := by simpa [noLists] using n
    cases r with
    | cons h1 h2 => rw [reads_no d _ _ n'.1 h1, readsAll_no ds _ _ n'.2 h2]; rfl
end
/-! heads as keys -/
abbrev Hd : Type := Str × Int
def hdD (h : Hd) : PyData := .tuple [.str h.1, .int h.2]
def hk (h : Hd) : List Key := [.inr h.1, .inl h.2]
theorem hk_inj {a b : Hd} (h : hk a = hk b) : a = b := by
  obtain ⟨x, i⟩ := a
  obtain ⟨y, j⟩ := b
  unfold hk at h
  simp only [List.cons.injEq, Sum.inr.injEq, Sum.inl.injEq, and_true] at h
  rw [h.1, h.2]
theorem dq_hd {v : V} {h : Hd} (g : Dq H v (hdD h)) : ∃ a, v = .ref a ∧ H a = some (.tup ((hk h).map kV)) := by
  obtain ⟨a, xs, rfl, ha, hs⟩ := dq_tup g
  cases hs with
  | cons h1 h2 =>
    cases h2 with
    | cons h2 h3 =>
      cases h3
      rw [dq_str h1, dq_int h2] at ha
      exact ⟨a, rfl, ha⟩
theorem hd_dq {a : Addr} {h : Hd} (ha : H a = some (.tup ((hk h).map kV))) : Dq H (.ref a) (hdD h) := .tup ha (.cons (.str _) (.cons (.int _) .nil))
theorem noList_hd (h : Hd) : noList (hdD h) = true := by simp [hdD, noList, noLists]
theorem sortOk_hd {hs : List Hd} (hl : hs.length ≤ 10000) : SortOk (hs.map hdD) where
  al := AllAlike.of fun a b => by simp [hdD, alike, alikeAll]
  so := Sortable.tuples fun a => ⟨_, _, rfl⟩
  ln := by rw [List.length_map]; exact hl
  dp := fun d hd => by
    obtain ⟨h, _, rfl⟩ := List.mem_map.mp hd
    simp [hdD, PyData.depth, PyData.depthAll]
def rSortK : List V → Hp → VK → Prop := fun vs H Q => ∃ (a : Addr) (kvs : List (List Key × V)) (hs : List Hd), vs = [.ref a] ∧ H a = some (.dT kvs) ∧ kvs.map (·.1) = hs.map hk ∧ hs.length ≤ 10000 ∧ ∀ ys p, H p = none → DqAll H ys ((hs.map hdD).mergeSort dle) → Q (.ref p) (upd H p (.lst ys))
theorem kt_dq {kvs : List (List Key × V)} {ks : List (List Key × Addr × Value)} (r : KT H kvs ks) : ∀ {hs : List Hd}, kvs.map (·.1) = hs.map hk → DqAll H (ks.map fun x => V.ref x.2.1) (hs.map hdD) := by
  induction r with
  | nil =>
    intro hs h
    have e : hs = [] := by
      cases hs with
      | nil => rfl
      | cons => simp at h
    rw [e]
    exact .nil
  | @cons p q ps qs h t ih =>
    intro hs e
    cases hs with
    | nil => simp at e
    | cons y ys =>
      rw [List.map_cons, List.map_cons] at e
      injection e with e1 e2
      refine .cons (hd_dq ?_) (ih e2)
      rw [← e1]
      exact h.2.1
/-- sorted(a dict with heads as keys) -/
theorem cr_sortK (hc : X.calm = true) (hu : X.A.units + 64 < cLine) : CallR X (.builtin "sorted") rSortK := by
  intro pins s σ H vs us Q I r h
  obtain ⟨d, kvs, hs, rfl, hd, hks, hln, q⟩ := h
  obtain ⟨u, rfl, rx⟩ := vals1 r
  cases rx
  obtain ⟨z, hsm, ks, pr, o, es, ep, ho, hx, hdt, he, hn⟩ := (show ObjOk X.prog X.w H s.heap d (.dT kvs) from I.hok d _ hd)
  have l1 : es.size = ks.length := size_of_entries he
  have l2 : kvs.length = ks.length := Paired.length pr
  refine Calls.call_function_entry PyProof.Rows.kind_sorted PyProof.Rows.plain_sorted PyProof.Rows.entry_sorted (PyProof.Rows.args_sorted1 _) ?_
  unfold Builtin.«sorted»
  refine wpAny_bind (m := checkCount "sorted" 1 1 _) (wpAny_pure ?_)
  refine wpAny_bind (PySem.W.kdu_collect (A := X.A.in1) (kdl_raw hsm hx hdt) (I.ok.hd hc) ho (by omega) fun h' tk acc kp it => ?_)
  have ea : acc.toList = ks.map fun x => Value.ref x.2.1 := by
    have hl : acc.toList.length = ks.length := by rw [Array.length_toList, it.1]; exact l1
    apply List.ext_getElem?
    intro j
    rw [List.getElem?_map]
    cases hj : acc.toList[j]? with
    | none =>
      have h1 := List.getElem?_eq_none_iff.mp hj
      rw [List.getElem?_eq_none (by omega)]
      all_goals rfl
    | some v =>
      obtain ⟨en, hen, hv⟩ := it.2 j v (by rw [← Array.getElem?_toList]; exact hj)
      have qe := entry_at he j
      rw [hen] at qe
      cases hb : ks[j]? with
      | none =>
        rw [hb] at qe
        exact nomatch (show some en = none from qe)
      | some b =>
        rw [hb] at qe
        have e2 : en = entryOfKey (tupleKind (mixKind X.prog X.w)) b := Option.some.inj qe
        rw [hv, e2]
        all_goals rfl
  have eb : acc.toList = (ks.map fun x => x.2.1).map Value.ref := by rw [ea, List.map_map]; all_goals rfl
  have rv : Vals (ks.map fun x => V.ref x.2.1) acc.toList := by
    rw [eb]
    have := vals_refs (ks.map fun x => x.2.1)
    rw [List.map_map] at this
    exact this
  have hdq := kt_dq pr hks
  have I1 : Inv X pins σ H { s with heap := h', toks := tk } := I.kept kp
  have hsl : sizeLine = 16777216 := sizeLine_eq
  have hal : acc.toList.length ≤ sizeLine := by rw [Array.length_toList, it.1]; omega
  refine wpAny_bind (wpAny_newList ?_ hal)
  refine wpAny_bind (wpAny_holding ?_)
  refine sort_collected (A := X.A.in1) (by show X.A.units + 1 + 40 < cLine; omega) (s0 := s) (us := acc.toList) (h' := h') (tk := tk) I1 hdq rv (sortOk_hd hln) (fun b hb u as r1 r2 => ?_) fun ys s1 hys J => ?_
  · have hb2 := List.of_mem_zip hb
    obtain ⟨g, _, eg⟩ := List.mem_map.mp hb2.2
    rw [← eg] at r2
    rw [reads_no _ _ _ (noList_hd g) r2]
    exact List.not_mem_nil
  · exact wpAny_pure ⟨_, rfl, .ref h'.objs.size, _, J, rfl, q ys _ (I1.hok.fresh (Nat.le_refl _)) hys⟩
end
end DL

set_option Elab.async false
set_option linter.all false
set_option maxRecDepth 100000
set_option maxHeartbeats 4000000
/-! dicts with heads as keys; dicts with whole numbers as keys -/
namespace DL
open PySem PySem.W PySem.Spec PyProof.Rows L2
abbrev HTs := List (Hd × Ty)
abbrev DcP (H : Hp) (kvs : HTs) (xs : List (List L2.Key × V)) : Prop := Paired (fun (p : Hd × Ty) (q : List L2.Key × V) => q.1 = hk p.1 ∧ p.2.p H q.2) kvs xs
theorem DcP.mono {H H' : Hp} (e : Same H H') {kvs : HTs} {xs : List (List L2.Key × V)} (h : DcP H kvs xs) : DcP H' kvs xs := by
  induction h with
  | nil => exact .nil
  | cons h t ih => exact .cons ⟨h.1, Ty.mono _ e h.2⟩ ih
def OwnD (kvs : HTs) : Ow := ⟨fun H _ u => ∃ xs, u = .dT xs ∧ DcP H kvs xs, fun e ⟨xs, h, g⟩ => ⟨xs, h, DcP.mono e g⟩, fun ⟨xs, h, _⟩ ⟨ys, z⟩ => by rw [h] at z; cases z⟩
def DcT (kvs : HTs) : Ty := ⟨fun H v => ∃ a xs, v = .ref a ∧ H a = some (.dT xs) ∧ DcP H kvs xs, fun e ⟨a, xs, h1, h2, h3⟩ => ⟨a, xs, h1, e _ _ h2, DcP.mono e h3⟩⟩
theorem ownD_fix {kvs : HTs} (Hs : Hp) (p : Addr) (u : HO) (hp : Hs p = none) (h : (OwnD kvs).p Hs p u) : (DcT kvs).p (upd Hs p u) (.ref p) := by
  obtain ⟨xs, rfl, h⟩ := h
  exact ⟨p, xs, rfl, upd_same, DcP.mono ((Same.refl _).newU hp) h⟩
def getH (kvs : HTs) (h : Hd) : Option Ty := (kvs.find? fun p => decide (p.1 = h)).map (·.2)
def putH (kvs : HTs) (h : Hd) (T : Ty) : HTs := if (kvs.any fun p => decide (p.1 = h)) = true then kvs.map (fun p => if p.1 = h then (p.1, T) else p) else kvs ++ [(h, T)]
theorem DcP.any {H : Hp} {kvs : HTs} {xs : List (List L2.Key × V)} (h : DcP H kvs xs) (k : Hd) : (xs.any fun p => decide (p.1 = hk k)) = (kvs.any fun p => decide (p.1 = k)) := by
  induction h with
  | nil => rfl
  | @cons p q ps qs h t ih =>
    rw [List.any_cons, List.any_cons, ih]
    have : decide (q.1 = hk k) = decide (p.1 = k) := by
      rw [h.1]
      by_cases e : p.1 = k
      · rw [e, decide_eq_true rfl, decide_eq_true rfl]
      · rw [decide_eq_false e, decide_eq_false (fun z => e (hk_inj z))]
    rw [this]
theorem DcP.val {H : Hp} {kvs : HTs} {xs : List (List L2.Key × V)} (h : DcP H kvs xs) (k : Hd) : (getH kvs k = none ∧ valV xs (hk k) = none) ∨ ∃ T v, getH kvs k = some T ∧ valV xs (hk k) = some v ∧ T.p H v := by
  induction h with
  | nil => exact .inl ⟨rfl, rfl⟩
  | @cons p q ps qs h t ih =>
    by_cases e : p.1 = k
    · refine .inr ⟨p.2, q.2, ?_, valV_pos (h.1.trans (by rw [e])), h.2⟩
      unfold getH
      rw [List.find?_cons, decide_eq_true e]
      rfl
    · have e1 : getH (p :: ps) k = getH ps k := by
        unfold getH
        rw [List.find?_cons, decide_eq_false e]
      rw [e1, valV_neg (fun z => e (hk_inj (h.1.symm.trans z)))]
      exact ih
theorem paired_snoc {α β : Type} {R : α → β → Prop} {xs : List α} {ys : List β} {a : α} {b : β} (h : Paired R xs ys) (g : R a b) : Paired R (xs ++ [a]) (ys ++ [b]) := by
  induction h with
  | nil => exact .cons g .nil
  | cons h t ih => exact .cons h ih
theorem DcP.put {H : Hp} {kvs : HTs} {xs : List (List L2.Key × V)} (h : DcP H kvs xs) (k : Hd) {T : Ty} {v : V} (hv : T.p H v) : DcP H (putH kvs k T) (putK xs (hk k) v) := by
  unfold putH putK
  rw [h.any k]
  by_cases e : (kvs.any fun p => decide (p.1 = k)) = true
  · rw [if_pos e, if_pos e]
    clear e
    induction h with
    | nil => exact .nil
    | @cons p q ps qs h t ih =>
      rw [List.map_cons, List.map_cons]
      refine .cons ?_ ih
      by_cases e : p.1 = k
      · rw [if_pos e, if_pos (h.1.trans (by rw [e]))]
        exact ⟨h.1, hv⟩
      · rw [if_neg e, if_neg (fun z => e (hk_inj (h.1.symm.trans z)))]
        exact h
  · rw [if_neg e, if_neg e]
    exact paired_snoc h ⟨rfl, hv⟩
section
variable {X : Cx} {ρ : List Sl} {e ke de : Expr} {T : Ty} {h : Hd} {kvs : HTs} {pos : Pos} {rest : List Stmt} {E : En} {k : Nat}
theorem eo_dnew : EO X ρ (.Dict [] [] pos) (OwnD []) := fun F Hs H σ Q E q => RE.of pe_dnewT fun p hp => q p _ Hs _ (Ext.newO E.s hp) hp (E.s.free hp) upd_same ⟨[], rfl, .nil⟩
theorem room1 {A : Around} (hr : Room k A) : A.units + 1 < cLine := by have := hr.un; omega
/-- own[h] = e -/
theorem bb_dput (i : Nat) {nm : Str} {npos ipos : Pos} (hr : Room k X.A) (hO : ρ[i]? = some (.ow (OwnD kvs))) (he : EE X ρ e T) (hke : EE X ρ ke (D (hdD h))) (hz : kvs.length < 100000) (hb : BB X (ρ.set i (.ow (OwnD (putH kvs h T)))) rest E) (hN : X.N[i]? = some nm := by rfl)
    (hv : Vis X.env.scope nm := by first | exact Or.inl rfl | exact Or.inr (Or.inl rfl) | exact Or.inr (Or.inr rfl)) (hd : (nm == ("__debug__" : Str)) = false := by decide) (hcd : (nm == ("__classdict__" : Str)) = false := by decide)
    (hs : swapsWith e (some (.Subscript (.Name nm npos) ke ipos)) pos.line X.env = pure false := by rfl) : BB X ρ (.Assign [.Subscript (.Name nm npos) ke ipos] e pos :: rest) E := fun W F Hs H σ D' tk ER1 g => by
  refine RSs.cons (ps_dput (room1 hr) (pe_var hN hv hd hcd) pe_RE pe_RE hs) ?_
  refine he F Hs H σ _ ER1 fun v Hs1 H1 X1 hv => ?_
  have E1 := ER1.ext X1
  obtain ⟨q, u, g1, g2, g3, g4, xs, rfl, g5⟩ := E1.o i _ hO
  refine ⟨.ref q, g1, ?_⟩
  refine hke F Hs1 H1 σ _ E1 fun kv Hs2 H2 X2 hkv => ?_
  have E2 := E1.ext X2
  have g4' : H2 q = some (.dT xs) := X2.same E1.s _ _ g4
  obtain ⟨b, rfl, hbk⟩ := dq_hd hkv
  have hl : xs.length < sizeLine := by
    rw [← Paired.length g5]
    exact Nat.lt_of_lt_of_le hz (by decide)
  refine ⟨q, _, rfl, DPut.t g4' (X2.b _ _ hbk) hl, ?_⟩
  exact hb W F Hs2 _ σ D' tk (E2.mut hO g1 ⟨_, rfl, DcP.put (DcP.mono X2.a g5) h (T.mono X2.a hv)⟩) (g.mono (X1.a.trans X2.a))
theorem dget_of {H : Hp} {a b : Addr} {xs : List (List L2.Key × V)} (h1 : H a = some (.dT xs)) (h2 : H b = some (.tup ((hk h).map kV))) : DGet H a (.ref b) (valV xs (hk h)) := DGet.t h1 h2
theorem dcp_some {H : Hp} {xs : List (List L2.Key × V)} (g : DcP H kvs xs) : (valV xs (hk h)).isSome = (getH kvs h).isSome := by
  rcases g.val h with ⟨e1, e2⟩ | ⟨T, v, e1, e2, _⟩
  · rw [e1, e2]; rfl
  · rw [e1, e2]; rfl
/-- key in d -/
theorem in_run (hke : EE X ρ ke (D (hdD h))) (hde : EE X ρ de (DcT kvs)) {F Hs H : Hp} {σ : L2.St} {Q : VK} (E : ER ρ F Hs H σ) (q : ∀ Hs' H', Ext Hs H Hs' H' → Q (.bl (getH kvs h).isSome) H') : tDIn (RE X ke) (RE X de) σ H Q := by
  refine hke F Hs H σ _ E fun kv Hs1 H1 X1 hkv => ?_
  refine hde F Hs1 H1 σ _ (E.ext X1) fun v Hs2 H2 X2 hv => ?_
  obtain ⟨a, xs, rfl, ha, hp⟩ := hv
  obtain ⟨b, rfl, hb⟩ := dq_hd hkv
  refine ⟨a, _, rfl, dget_of (X2.b _ _ ha) (X2.b _ _ (X2.a _ _ hb)), ?_⟩
  rw [dcp_some hp]
  exact q _ _ (X1.trans X2)
theorem t_inH (hr : Room k X.A) (hke : EE X ρ ke (D (hdD h))) (hde : EE X ρ de (DcT kvs)) (hm : behindInMarks .In de = false := by rfl) : ET X ρ (.Compare ke [.In] [de] pos) (getH kvs h).isSome := fun F Hs H σ Q E q =>
  RT.of (pt_cmp (pc_din (room1 hr) pe_RE pe_RE) hm) (in_run hke hde E fun Hs' H' x => ⟨_, rfl, q _ _ x⟩)
theorem e_inH (hr : Room k X.A) (hke : EE X ρ ke (D (hdD h))) (hde : EE X ρ de (DcT kvs)) (hm : behindInMarks .In de = false := by rfl) : EE X ρ (.Compare ke [.In] [de] pos) (D (.bool (getH kvs h).isSome)) := fun F Hs H σ Q E q =>
  RE.of (pe_cmp (pc_din (room1 hr) pe_RE pe_RE) hm) (in_run hke hde E fun Hs' H' x => q _ _ _ x (.bl _))
/-- key not in own -/
theorem t_notinO (i : Nat) {nm : Str} {npos : Pos} (hr : Room k X.A) (hO : ρ[i]? = some (.ow (OwnD kvs))) (hke : EE X ρ ke (D (hdD h))) (hN : X.N[i]? = some nm := by rfl)
    (hv : Vis X.env.scope nm := by first | exact Or.inl rfl | exact Or.inr (Or.inl rfl) | exact Or.inr (Or.inr rfl)) (hd : (nm == ("__debug__" : Str)) = false := by decide) (hcd : (nm == ("__classdict__" : Str)) = false := by decide)
    (hm : behindInMarks .NotIn (.Name nm npos) = false := by rfl) : ET X ρ (.Compare ke [.NotIn] [.Name nm npos] pos) (!(getH kvs h).isSome) := fun F Hs H σ Q E q => by
  refine RT.of (pt_cmp (pc_dnotin (room1 hr) pe_RE (pe_var hN hv hd hcd)) hm) ?_
  refine hke F Hs H σ _ E fun kv Hs1 H1 X1 hkv => ?_
  have E1 := E.ext X1
  obtain ⟨p, u, g1, g2, g3, g4, xs, rfl, g5⟩ := E1.o i _ hO
  obtain ⟨b, rfl, hb⟩ := dq_hd hkv
  refine ⟨.ref p, g1, p, _, rfl, dget_of g4 (X1.b _ _ hb), ?_⟩
  rw [dcp_some g5]
  exact ⟨_, rfl, q _ _ X1⟩
/-- d[key] -/
theorem e_getH (hr : Room k X.A) (hde : EE X ρ de (DcT kvs)) (hke : EE X ρ ke (D (hdD h))) (hg : getH kvs h = some T) (hs : NoSl ke := by exact fun _ _ => rfl) : EE X ρ (.Subscript de ke pos) T := fun F Hs H σ Q E q => by
  refine RE.of (pe_dget (room1 hr) pe_RE pe_RE hs) ?_
  refine hde F Hs H σ _ E fun v Hs1 H1 X1 hv => ?_
  refine hke F Hs1 H1 σ _ (E.ext X1) fun kv Hs2 H2 X2 hkv => ?_
  obtain ⟨a, xs, rfl, ha, hp⟩ := (DcT kvs).mono X2.a hv
  obtain ⟨b, rfl, hb⟩ := dq_hd hkv
  rcases hp.val h with ⟨e1, _⟩ | ⟨T', w, e1, e2, hw⟩
  · rw [hg] at e1
    cases e1
  · rw [hg] at e1
    cases e1
    have dg := dget_of (h := h) (X2.b _ _ ha) (X2.b _ _ hb)
    rw [e2] at dg
    exact ⟨a, w, rfl, dg, q w _ _ (X1.trans X2) hw⟩
theorem noLists_mem : ∀ {ds : List PyData}, noLists ds = true ↔ ∀ d ∈ ds, noList d = true
  | [] => by simp [noLists]
  | x :: r => by simp [noLists, noLists_mem (ds := r)]
theorem noLists_hd (hs : List Hd) : noLists (hs.map hdD) = true := noLists_mem.mpr fun d hd => by
  obtain ⟨h, _, rfl⟩ := List.mem_map.mp hd
  exact noList_hd h
theorem sort_out {Hs H : Hp} {ys : List V} {ds : List PyData} {p : Addr} {Q : VK} (s : Same Hs H) (hn : H p = none) (hnl : noLists ds = true) (hys : DqAll H ys (ds.mergeSort dle))
    (q : ∀ p u Hs' H', Ext Hs H Hs' H' → H p = none → Hs' p = none → H' p = some u → (OwnL (ds.mergeSort dle)).p Hs' p u → Q (.ref p) H') : Q (.ref p) (upd H p (.lst ys)) := by
  have hl : noLists (ds.mergeSort dle) = true := noLists_mem.mpr fun d hd => noLists_mem.mp hnl d (List.mem_mergeSort.mp hd)
  exact q p _ (proT Hs H) _ ((Ext.promo s).trans (Ext.newO (proT_h s) hn)) hn (proT_none s hn) upd_same ⟨ys, rfl, dqs_promo s _ _ hl hys⟩
/-- sorted(d) -/
theorem dcp_keys {H : Hp} {xs : List (List L2.Key × V)} (g : DcP H kvs xs) : xs.map (·.1) = (kvs.map (·.1)).map hk := by
  induction g with
  | nil => rfl
  | cons h t ih => rw [List.map_cons, List.map_cons, List.map_cons, ih, h.1]
theorem o_sortedH {p : Pos} (hr : Room k X.A) (hc : X.calm = true) (hm : X.mg "sorted" = none) (hde : EE X ρ de (DcT kvs)) (hz : kvs.length ≤ 10000) (hg : Gl X "sorted" := by rfl) (he : starEach [de] X.env = (false, eval de X.env) :: starEach [] X.env := by rfl) :
    EO X ρ (.Call (.Name "sorted" p) [de] [] pos) (OwnL (((kvs.map (·.1)).map hdD).mergeSort dle)) :=
  eo_callB (cr_sortK hc (by have := hr.un; omega)) hm rfl (ea_cons hde ea_nil he) (fun Hs H vs Q s h q => by
    obtain ⟨v, rfl, a, xs, rfl, ha, hp⟩ := tys1 h
    refine ⟨a, xs, kvs.map (·.1), rfl, s _ _ ha, dcp_keys hp, by rw [List.length_map]; exact hz, fun ys p hn hys => ?_⟩
    exact sort_out s hn (noLists_hd _) hys q) hg (he := he)
theorem o_sortedD {p : Pos} {ds : List PyData} (hr : Room k X.A) (hm : X.mg "sorted" = none) (hde : EE X ρ de (D (.list ds))) (hz : SortOk ds) (hnl : noLists ds = true) (hg : Gl X "sorted" := by rfl) (he : starEach [de] X.env = (false, eval de X.env) :: starEach [] X.env := by rfl) :
    EO X ρ (.Call (.Name "sorted" p) [de] [] pos) (OwnL (ds.mergeSort dle)) :=
  eo_callB (cr_sortD (by have := hr.un; omega)) hm rfl (ea_cons hde ea_nil he) (fun Hs H vs Q s h q => by
    obtain ⟨v, rfl, hv⟩ := tys1 h
    obtain ⟨a, xs, rfl, ha, hp⟩ := dq_list hv
    refine ⟨a, xs, ds, rfl, s _ _ ha, dqs_mono s _ _ hp, hz, fun ys p hn hys => ?_⟩
    exact sort_out s hn hnl hys q) hg (he := he)
end
end DL

set_option Elab.async false
set_option linter.all false
set_option maxRecDepth 100000
set_option maxHeartbeats 4000000
/-! items of dicts with heads as keys -/
namespace DL
open PySem PySem.W PySem.Spec PyProof.Rows L2
section
variable {X : Cx} {pins : List (Addr × Obj)} {σ : L2.St} {H : Hp} {s : Shared} {d : Addr} {o : Obj}
theorem frzT2 {kvs : List (List L2.Key × V)} (I : Inv X pins σ H s) (h : H d = some (.frz o (.dT kvs))) :
    (d == sysModules) = false ∧ s.heap.get? d = some o ∧ o.ExactDict ∧ ∃ (es : Array DictEntry) (ep : Nat), o.data = .dict es ep ∧ es.size = kvs.length ∧
      ∀ (i : Nat) (k : List L2.Key) (v : V), kvs[i]? = some (k, v) → ∃ (en : DictEntry) (q : Addr), es[i]? = some en ∧ en.key = .ref q ∧ H q = some (.tup (k.map kV)) ∧ RelV v en.val := by
  obtain ⟨hd, z, hs, xs, pr, o', es, ep, ho, hx, hdt, he, _⟩ := I.hok d _ h
  rw [hd] at ho
  cases ho
  refine ⟨hs, hd, hx, es, ep, hdt, ?_, fun i k v e => ?_⟩
  · have l1 : es.size = xs.length := size_of_entries he
    have l2 : kvs.length = xs.length := Paired.length pr
    omega
  · obtain ⟨b, hb, e1, e2, e3⟩ := L2.paired_get pr e
    have q := entry_at he i
    rw [hb] at q
    exact ⟨_, b.2.1, q, rfl, e2, e3⟩
end
/-- the pairs of the locked dict, each a new tuple -/
def ItiT (d : Addr) (o : Obj) (kvs : List (List L2.Key × V)) : It :=
  ⟨fun i H => H d = some (.frz o (.dT kvs)) ∧ i < kvs.length, fun i H x H' => ∃ T k v q, kvs[i]? = some (k, v) ∧ x = .ref T ∧ H T = none ∧ H q = some (.tup (k.map kV)) ∧ H' = upd H T (.tup [.ref q, v]), fun i H => H d = some (.frz o (.dT kvs)) ∧ kvs.length ≤ i⟩
theorem turn_itemsT {P : Program} {w : World} {K : PySem.W.Frag} {d : Addr} {o : Obj} {es : Array DictEntry} {ep : Nat} {kvs : List (List L2.Key × V)} {elts : List Expr} {kk : Nat} {tpos : Pos} (it : Addr) (hod : o.data = .dict es ep) :
    Turn P w K (.Tuple elts kk tpos) (ItiT d o kvs) [it] it (fun i h => ∃ ok ov, IsItemIter h it d i kvs.length ep ok ov) where
  mem := by simp
  obj := fun i h st b hb => by
    have e : b = it := by simpa using hb
    subst e
    obtain ⟨ok, ov, e⟩ := st
    exact ⟨_, e, fun v z => nomatch z⟩
  keep := fun i h h' st k => let ⟨ok, ov, e⟩ := st; ⟨ok, ov, k it (by simp) _ e⟩
  item := by
    intro X hP hw hK hc i pins s σ H E I hf st hg
    subst hP hw hK
    obtain ⟨hd, hi⟩ := hg
    obtain ⟨hs, hgd, hx, es', ep', hdt, hsz, ent⟩ := frzT2 I hd
    obtain ⟨rfl, rfl⟩ := dict_ep hod hdt
    obtain ⟨⟨k, v⟩, hkv⟩ : ∃ p, kvs[i]? = some p := ⟨kvs[i], List.getElem?_eq_getElem hi⟩
    obtain ⟨en, q, hen, hkey, hq, rv⟩ := ent i k v hkv
    obtain ⟨ok, ov, he⟩ := st
    rw [← hsz] at he
    have hlt : it < s.heap.objs.size := Heap.lt_size he
    have hie : i < es'.size := by omega
    have hes : es'[i] = en := by
      rw [Array.getElem?_eq_getElem hie] at hen
      exact Option.some.inj hen
    refine wpAny_pyNext_items_item_raw he ⟨o, hgd, hx, hdt⟩ hie fun h' ho hT hz hk => ?_
    refine ⟨_, rfl, wpAny_letOwnedTupleGo_items (s := { s with heap := h' }) ho fun h'' he' sb => ?_⟩
    have hT2 : h''.get? s.heap.objs.size = some { cls := .type "tuple", data := .seq #[en.key, en.val] } := by
      rw [← hes]
      exact (sb.2 _ (Nat.ne_of_gt hlt)).trans hT
    have new : ObjOk X.prog X.w (upd H s.heap.objs.size (.tup [.ref q, v])) h'' s.heap.objs.size (.tup [.ref q, v]) :=
      ⟨by show 2 ≤ sizeLine; decide, [en.key, en.val], .cons hkey (.cons rv .nil), ⟨_, hT2, rfl, _, rfl⟩⟩
    have I1 : Inv X pins σ (upd H s.heap.objs.size (.tup [.ref q, v])) { s with heap := h'' } :=
      I.turnedNew (t' := s.toks) (ch := [it]) (fun b ob hb e => (sb.2 b (by simpa using hb)).trans (hk b ob (by simpa using hb) e)) hf (Nat.le_refl _) new
    refine ⟨.ref s.heap.objs.size, _, I1, rfl, ⟨_, k, v, q, hkv, rfl, I.hok.fresh (Nat.le_refl _), hq, rfl⟩, ⟨es'[i].key, es'[i].val, ?_⟩, fun b hb => ?_⟩
    · rw [← hsz]; exact he'
    · have e : b = it := by simpa using hb
      rw [e, upd_ne (Nat.ne_of_lt hlt)]
      exact (hf it (by simp)).1
  done := by
    intro X hP hw hK hc i pins s σ H E I hf st hg
    subst hP hw hK
    obtain ⟨hd, hi⟩ := hg
    obtain ⟨f0, f1, f2, f3, f4, f5⟩ := hf it (by simp)
    obtain ⟨hs, hgd, hx, es', ep', hdt, hsz, ent⟩ := frzT2 I hd
    obtain ⟨rfl, rfl⟩ := dict_ep hod hdt
    obtain ⟨ok, ov, he⟩ := st
    rw [← hsz] at he
    exact wpAny_pyNext_items_end_raw (I.ok.hd hc) he ⟨o, hgd, hx, hdt⟩ (by omega) fun h' eb => ⟨rfl, I.turned (t' := s.toks) (fun b ob hb e => eb b ob hb e) f0 f1 f3 f4 f5⟩
  self := fun A i s Q E st h => let ⟨_, _, e⟩ := st; PySem.W.kcp_self e h
def iItemsL (td : TE) : TI := fun σ H R => td σ H fun x H1 => ∃ d kvs, x = .ref d ∧ H1 d = some (.dT kvs) ∧ ∀ o, R (ItiT d o kvs) (upd H1 d (.frz o (.dT kvs)))
theorem pi_itemsL {X : Cx} {e : Expr} {td : TE} {apos cpos tpos : Pos} {elts : List Expr} {kk : Nat} (he : PE X e td) (hbase : attributeBase e "items" X.env (eval e X.env) = eval e X.env := by rfl) (hline : (apos.endLine == cpos.line) = true := by rfl) :
    PI X (.Tuple elts kk tpos) (.Call (.Attribute e "items" apos) [] [] cpos) (iItemsL td) := by
  refine ⟨fun pins s σ H R I h => ?_⟩
  refine wpAny_Call_method (T := "dict") (id := "dict.items") hbase rfl hline F.plainAttrs_dict F.slot_dict_items F.type_dict_items (thn (he.run pins s σ H _ I h) fun u s1 ⟨x, H1, I1, rx, d, kvs, ex, hd, q⟩ => ?_)
  subst ex
  obtain rfl : u = Value.ref d := rx
  obtain ⟨od, IL⟩ := I1.lock hd True.intro
  obtain ⟨hs, hgd, hx, es, ep, hdt, hsz, ent⟩ := frzT2 IL upd_same
  have raw : DT.Raw s1.heap d es ep := ⟨od, hgd, hx, hdt⟩
  refine ⟨raw.typeIs, fun b hb => by cases hb; exact ⟨od, hgd, hx.2.1⟩, ?_⟩
  have I2 : Inv X pins σ (upd H1 d (.frz od (.dT kvs))) { s1 with heap := s1.heap.push { cls := .type "dict_items", data := .fields #[.ref d] } } := IL.kept (t' := s1.toks) fun b ob q => Heap.get?_push_of_some _ q
  have fin : wpAny (model X.prog X.w) X.A (pyIter (.ref s1.heap.objs.size)) (PIE X pins σ (.Tuple elts kk tpos) R) X.xe { s1 with heap := s1.heap.push { cls := .type "dict_items", data := .fields #[.ref d] } } := by
    refine DT.iterI (d := d) (es := es) (ep := ep) ⟨_, Heap.get?_push_size _ rfl, rfl, rfl⟩ (raw.push _) (pi_one (tk := s1.toks) I2 _ (turn_itemsT _ hdt) ⟨.none, .none, ?_⟩ (q od))
    rw [hsz]
    exact Heap.get?_push_size _ rfl
  show wpAny _ _ (callWith cpos (.builtin "dict.items") [.ref d] [] []) _ X.xe s1
  exact method_meetsIn F.slot_dict_items F.entry_dict_items rfl (PySem.evalArgs_none ⟨rfl, raw.typeIs, F.args_dict_items_1 _, _, DT.meetsItems hs, ⟨raw, fin⟩⟩)
section
variable {X : Cx} {ρ : List Sl} {e : Expr} {kvs : HTs} {pos apos cpos tpos : Pos} {elts : List Expr} {kk k : Nat}
theorem paired_at {α β : Type} {R : α → β → Prop} {xs : List α} {ys : List β} (h : Paired R xs ys) {i : Nat} {a : α} (e : xs[i]? = some a) : ∃ b, ys[i]? = some b ∧ R a b := L2.paired_get h e
theorem good_items {d : Addr} {o : Obj} {xs : List (List L2.Key × V)} {Hs : Hp} (hd : Hs d = some (.frz o (.dT xs))) (hp : DcP Hs kvs xs) : Good (ItiT d o xs) (kvs.map fun p => TupT [D (hdD p.1), p.2]) Hs := fun Hs2 H2 e1 e2 i hi => by
  have hl : kvs.length = xs.length := Paired.length hp
  rw [List.length_map] at hi ⊢
  have hd2 := e2 _ _ (e1 _ _ hd)
  refine ⟨fun T hT => ?_, fun e => ⟨hd2, by omega⟩⟩
  rw [List.getElem?_map] at hT
  cases hkv : kvs[i]? with
  | none => rw [hkv] at hT; cases hT
  | some p =>
    rw [hkv] at hT
    rw [← Option.some.inj hT]
    have hlt : i < kvs.length := (List.getElem?_eq_some_iff.mp hkv).1
    refine ⟨⟨hd2, by omega⟩, fun x H' y => ?_⟩
    obtain ⟨T0, k, v, q, y1, rfl, y2, y3, rfl⟩ := y
    obtain ⟨b, hb, g1, g2⟩ := paired_at hp hkv
    rw [y1] at hb
    cases hb
    have s2 := proT_h e2
    have hn : proT Hs2 H2 T0 = none := proT_none e2 y2
    refine ⟨_, (Ext.promo e2).trans (Ext.new s2 y2), T0, _, rfl, upd_same, ?_⟩
    have m : Same (proT Hs2 H2) (upd (proT Hs2 H2) T0 (.tup [.ref q, v])) := (Same.refl _).newU hn
    refine .cons (Ty.mono _ m (hd_dq ?_)) (.cons (Ty.mono _ ((e1.trans proT_s).trans m) g2) .nil)
    have g1' : k = hk p.1 := g1
    rw [← g1']
    exact proT_tup e2 y3
theorem it_itemsO (h : EO X ρ e (OwnD kvs)) (hbase : attributeBase e "items" X.env (eval e X.env) = eval e X.env := by rfl) (hline : (apos.endLine == cpos.line) = true := by rfl) :
    IT X ρ (.Tuple elts kk tpos) (.Call (.Attribute e "items" apos) [] [] cpos) (kvs.map fun p => TupT [D (hdD p.1), p.2]) := fun F Hs H σ R E q => by
  refine RI.of (pi_itemsL pe_RE hbase hline) ?_
  refine h F Hs H σ _ E fun p u Hs1 H1 X1 h1 h2 h3 h4 => ?_
  obtain ⟨xs, rfl, hp⟩ := h4
  refine ⟨p, xs, rfl, h3, fun o => ?_⟩
  have m : Same Hs1 (upd Hs1 p (.frz o (.dT xs))) := (Same.refl _).newU h2
  refine q _ (upd Hs1 p (.frz o (.dT xs))) _ ⟨X1.a.trans m, fun a w e => ?_, fun a w e g => ?_⟩ (good_items upd_same (DcP.mono m hp))
  · by_cases z : a = p
    · rw [z, upd_same] at e
      rw [z, upd_same]
      exact e
    · rw [upd_ne z] at e
      rw [upd_ne z]
      exact X1.b _ _ e
  · have z : a ≠ p := ne_of_none e h1
    rw [upd_ne z, upd_ne z]
    exact X1.c a w e g
theorem Ext.promo' {Hs H H' : Hp} (s : Same Hs H) (s' : Same H H') : Ext Hs H (proT Hs H') H' := ⟨proT_s, proT_h (s.trans s'), fun p u e g => ⟨s' _ _ e, by
  unfold proT
  rw [g]
  have e' := s' _ _ e
  cases u with
  | tup xs => exact .inr ⟨xs, rfl⟩
  | _ => rw [e']; exact .inl rfl⟩⟩
theorem nodup_inj {α : Type} : ∀ {xs : List α}, xs.Nodup → ∀ {i j : Nat} {a : α}, xs[i]? = some a → xs[j]? = some a → i = j
  | [], _, i, j, a, h, _ => by simp at h
  | x :: xs, nd, 0, 0, a, _, _ => rfl
  | x :: xs, nd, 0, j + 1, a, h, g => by
    rw [List.nodup_cons] at nd
    simp only [List.getElem?_cons_zero, Option.some.injEq] at h
    simp only [List.getElem?_cons_succ] at g
    exact absurd (List.mem_of_getElem? g) (by rw [← h]; exact nd.1)
  | x :: xs, nd, i + 1, 0, a, g, h => by
    rw [List.nodup_cons] at nd
    simp only [List.getElem?_cons_zero, Option.some.injEq] at h
    simp only [List.getElem?_cons_succ] at g
    exact absurd (List.mem_of_getElem? g) (by rw [← h]; exact nd.1)
  | x :: xs, nd, i + 1, j + 1, a, h, g => by
    rw [List.nodup_cons] at nd
    simp only [List.getElem?_cons_succ] at h g
    rw [nodup_inj nd.2 h g]
def rListIt : List V → Hp → VK → Prop := fun vs H Q => ∃ (p a : Addr) (kvs : List (List L2.Key × V)), vs = [.ref p] ∧ H p = some (L2.DX.itemsO p a) ∧ H a = some (.dT kvs) ∧
  ∀ (H' : Hp) (l : Addr) (ts : List Addr), Same H H' → H l = none → H' l = some (.lst (ts.map V.ref)) → ts.length = kvs.length →
    (∀ (j : Nat) (t : Addr), ts[j]? = some t → ∃ kv q, kvs[j]? = some kv ∧ H' t = some (.tup [.ref q, kv.2]) ∧ H q = some (.tup (kv.1.map kV))) → Q (.ref l) H'
theorem cr_listItems (hc : X.calm = true) : CallR X (.type "list") rListIt := by
  intro pins s σ H xs us Q I r h
  obtain ⟨p, a, kvs, rfl, hp, ha, q⟩ := h
  obtain rfl := Vals.ref1 r
  have view : s.heap.IsItemsView p a := (show ObjOk X.prog X.w H s.heap p (L2.DX.itemsO p a) from I.hok p _ hp).1
  obtain ⟨z, hd, xs', rel, o, es, ep, ho, hx, hdat, hes, his, hn⟩ := dt_of I.hok ha
  have l1 : kvs.length = xs'.length := Paired.length rel
  have l2 : es.size = xs'.length := size_of_entries hes
  have hh : X.A.handled = none := I.ok.hd hc
  refine dil_call (es := es) (ep := ep) hh view ⟨o, ho, hx, hdat⟩ (by omega) fun h' tk acc c as hk hS hl hG hacc => ?_
  have lak : as.length = kvs.length := by omega
  have nd : as.Nodup := List.Pairwise.imp (fun h => Nat.ne_of_lt h) hG.rise
  have hnl : H s.heap.objs.size = none := I.hok.fresh (Nat.le_refl _)
  have I2 : Inv X pins σ (upd H s.heap.objs.size (.lst (as.map V.ref))) { s with heap := h', toks := tk } :=
    I.laid (t' := tk) (o := .lst (as.map V.ref)) hk (Nat.le_refl _) ⟨by rw [List.length_map]; omega, acc.toList, c, by rw [hacc]; exact vals_refs as, by rw [Array.toArray_toList]; exact hS⟩
  obtain ⟨H2, I3, g, qt⟩ := L2.DX.takeT (P := fun b vs => ∃ (j : Nat) (kv : List L2.Key × V) (kq : Addr), as[j]? = some b ∧ kvs[j]? = some kv ∧ vs = [.ref kq, kv.2] ∧ H kq = some (.tup (kv.1.map kV))) I as _ I2 nd fun b hb => by
    obtain ⟨j, hj⟩ := List.mem_iff_getElem?.mp hb
    obtain ⟨hj', e3⟩ := hG.pairs j b hj
    have hab := hG.above b hb
    refine ⟨Nat.le_of_lt hab, by rw [upd_ne (Nat.ne_of_gt hab)]; exact I.hok.fresh (Nat.le_of_lt hab), ?_⟩
    have hjl : j < kvs.length := by omega
    have hkv : kvs[j]? = some kvs[j] := List.getElem?_eq_getElem hjl
    obtain ⟨x, hxj, r1, r2, r3⟩ := L2.paired_get rel hkv
    have he := entry_at hes j
    rw [hxj, Array.getElem?_eq_getElem hj'] at he
    have een : es[j] = entryOfKey (tupleKind (mixKind X.prog X.w)) x := Option.some.inj he
    refine ⟨[.ref x.2.1, kvs[j].2], ⟨j, kvs[j], x.2.1, hj, hkv, rfl, r2⟩, fun H2 => ?_⟩
    refine ⟨by show 2 ≤ sizeLine; decide, [es[j].key, es[j].val], .cons ?_ (.cons ?_ .nil), ⟨_, e3, rfl, _, rfl⟩⟩
    · rw [een]; rfl
    · rw [een]; exact r3
  refine ⟨.ref s.heap.objs.size, H2, I3, rfl, q H2 _ as (fun b u e => g b u ?_) hnl (g _ _ upd_same) lak fun j t ht => ?_⟩
  · rw [upd_ne (ne_of_none e hnl)]
    exact e
  · obtain ⟨vs, ⟨j', kv, kq, e1, e2, e3, e4⟩, e5⟩ := qt t (List.mem_of_getElem? ht)
    have ej : j' = j := by
      exact nodup_inj nd e1 ht
    subst ej
    rw [e3] at e5
    exact ⟨kv, kq, e2, e5, e4⟩
/-- list(d.items()) -/
def itemsD (ks : List (Hd × PyData)) : List PyData := ks.map fun p => .tuple [hdD p.1, p.2]
def ItemsT (kvs : HTs) : Ty := ⟨fun H v => ∃ p a xs, v = .ref p ∧ H p = some (L2.DX.itemsO p a) ∧ H a = some (.dT xs) ∧ DcP H kvs xs, fun e ⟨p, a, xs, h1, h2, h3, h4⟩ => ⟨p, a, xs, h1, e _ _ h2, e _ _ h3, DcP.mono e h4⟩⟩
theorem ee_items {de : Expr} (hde : EE X ρ de (DcT kvs)) (hbase : attributeBase de "items" X.env (eval de X.env) = eval de X.env := by rfl) (hline : (apos.endLine == cpos.line) = true := by rfl) : EE X ρ (.Call (.Attribute de "items" apos) [] [] cpos) (ItemsT kvs) := fun F Hs H σ Q E q => by
  refine RE.of (pe_bm0 PySem.F.plainAttrs_dict PySem.F.slot_dict_items PySem.F.type_dict_items L2.DX.mt_itemsT (pe_RE (e := de)) hbase hline) ?_
  refine hde F Hs H σ _ E fun v Hs1 H1 X1 ⟨a, xs, e, ha, hp⟩ => ?_
  subst e
  refine ⟨.inr (.inr (.inl ⟨rfl, .inr ⟨_, X1.b _ _ ha⟩⟩)), a, xs, rfl, rfl, X1.b _ _ ha, fun p hn => ?_⟩
  have m := (Same.refl Hs1).newU (p := p) (o := L2.DX.itemsO p a) (X1.b.free hn)
  exact q _ _ _ (X1.trans (Ext.new X1.b hn)) ⟨p, a, xs, rfl, upd_same, m _ _ ha, DcP.mono m hp⟩
theorem paired_map {α β γ : Type} {f : α → β} {R : β → γ → Prop} : ∀ {xs : List α} {ys : List γ}, Paired R (xs.map f) ys → Paired (fun a c => R (f a) c) xs ys
  | [], _, h => by cases h; exact .nil
  | x :: xs, _, h => by
    rw [List.map_cons] at h
    cases h with
    | cons h t => exact .cons h (paired_map t)
theorem dqs_of_at {H : Hp} : ∀ {vs : List V} {ds : List PyData}, vs.length = ds.length → (∀ (j : Nat) (v : V) (d : PyData), vs[j]? = some v → ds[j]? = some d → Dq H v d) → DqAll H vs ds
  | [], [], _, _ => .nil
  | v :: vs, d :: ds, hl, h => .cons (h 0 v d rfl rfl) (dqs_of_at (by simpa using hl) fun j w e h1 h2 => h (j + 1) w e h1 h2)
  | [], _ :: _, h, _ => by simp at h
  | _ :: _, [], h, _ => by simp at h
theorem o_listItems {de : Expr} {ks : List (Hd × PyData)} {p ipos : Pos} (hc : X.calm = true) (hm : X.mg "list" = none) (hde : EE X ρ de (DcT (ks.map fun p => (p.1, D p.2)))) (hg : Gl X "list" := by rfl) (hbase : attributeBase de "items" X.env (eval de X.env) = eval de X.env := by rfl) (hline : (apos.endLine == ipos.line) = true := by rfl)
    (he : starEach [.Call (.Attribute de "items" apos) [] [] ipos] X.env = (false, eval (.Call (.Attribute de "items" apos) [] [] ipos) X.env) :: starEach [] X.env := by rfl) :
    EO X ρ (.Call (.Name "list" p) [.Call (.Attribute de "items" apos) [] [] ipos] [] pos) (OwnL (itemsD ks)) :=
  eo_callTy (cr_listItems hc) hm boot_list (ea_cons (ee_items hde hbase hline) ea_nil he) (fun Hs H vs Q s h q => by
    obtain ⟨v, rfl, p, a, xs, rfl, hp, ha, hd⟩ := tys1 h
    refine ⟨p, a, xs, rfl, s _ _ hp, s _ _ ha, fun H' l ts e1 e2 e3 e4 e5 => ?_⟩
    have hx := Ext.promo' s e1
    refine q l _ _ _ hx e2 ?_ e3 ⟨_, rfl, dqs_of_at ?_ fun j v d h1 h2 => ?_⟩
    · unfold proT
      rw [s.free e2, e3]
    · have := Paired.length hd
      unfold itemsD
      rw [List.length_map] at this ⊢
      rw [List.length_map]
      omega
    · unfold itemsD at h2
      rw [List.getElem?_map] at h1 h2
      cases ht : ts[j]? with
      | none => rw [ht] at h1; cases h1
      | some t =>
        cases hk : ks[j]? with
        | none => rw [hk] at h2; cases h2
        | some p =>
          rw [ht] at h1
          rw [hk] at h2
          rw [← Option.some.inj h1, ← Option.some.inj h2]
          obtain ⟨kv, q, g1, g2, g3⟩ := e5 j t ht
          obtain ⟨kv', g4, g5, g6⟩ := L2.paired_get (paired_map hd) hk
          rw [g1] at g4
          cases g4
          refine .tup (proT_tup (s.trans e1) g2) (.cons (hd_dq ?_) (.cons (dq_mono hx.a _ _ g6) .nil))
          have g5' : kv.1 = DL.hk p.1 := g5
          rw [← g5']
          exact proT_tup (s.trans e1) (e1 _ _ g3)) hg (he := he)
end
end DL

set_option Elab.async false
set_option linter.all false
set_option maxRecDepth 100000
set_option maxHeartbeats 4000000
/-! dicts with whole numbers as keys; dicts with pairs of heads as keys -/
namespace DL
open PySem PySem.W PySem.Spec PyProof.Rows L2
def addI (ks : List Int) (i : Int) : List Int := if i ∈ ks then ks else ks ++ [i]
def kI (i : Int) : L2.Key × V := (Sum.inl i, V.bl true)
def OwnI (ks : List Int) : Ow := ⟨fun _ _ u => u = .dK (ks.map kI), fun _ h => h, fun h ⟨ys, z⟩ => by rw [h] at z; cases z⟩
def DcI (ks : List Int) : Ty := ⟨fun H v => ∃ a, v = .ref a ∧ H a = some (.dK (ks.map kI)), fun e ⟨a, h1, h2⟩ => ⟨a, h1, e _ _ h2⟩⟩
theorem ownI_fix {ks : List Int} (Hs : Hp) (p : Addr) (u : HO) (hp : Hs p = none) (h : (OwnI ks).p Hs p u) : (DcI ks).p (upd Hs p u) (.ref p) := by
  have h' : u = .dK (ks.map kI) := h
  subst h'
  exact ⟨p, rfl, upd_same⟩
theorem putI (ks : List Int) (i : Int) : putK (ks.map kI) (Sum.inl i) (V.bl true) = (addI ks i).map kI := by
  have e : ((ks.map kI).any fun kv => decide (kv.1 = Sum.inl i)) = decide (i ∈ ks) := by
    induction ks with
    | nil => rfl
    | cons a r ih =>
      rw [List.map_cons, List.any_cons, ih]
      by_cases h : a = i
      · subst h
        simp [kI]
      · have h' : ¬ i = a := fun z => h z.symm
        simp [kI, h, h']
  unfold putK addI
  rw [e]
  by_cases h : i ∈ ks
  · rw [if_pos (by simpa using h), if_pos h, List.map_map]
    refine List.map_congr_left fun a ha => ?_
    show (if (kI a).1 = Sum.inl i then _ else _) = _
    by_cases z : a = i
    · subst z
      simp [kI]
    · simp [kI, z]
  · rw [if_neg (by simpa using h), if_neg h, List.map_append]
    rfl
section
variable {X : Cx} {ρ : List Sl} {e ke de : Expr} {ks : List Int} {pos : Pos} {rest : List Stmt} {E : En} {k : Nat} {j : Int}
theorem eo_dnewI : EO X ρ (.Dict [] [] pos) (OwnI []) := fun F Hs H σ Q E q => RE.of pe_dnewK fun p hp => q p _ Hs _ (Ext.newO E.s hp) hp (E.s.free hp) upd_same rfl
/-- own[j] = True -/
theorem bb_dputI (i : Nat) {nm : Str} {npos ipos : Pos} (hr : Room k X.A) (hO : ρ[i]? = some (.ow (OwnI ks))) (he : EE X ρ e (D (.bool true))) (hke : EE X ρ ke (D (.int j))) (hz : ks.length < 100000) (hb : BB X (ρ.set i (.ow (OwnI (addI ks j)))) rest E) (hN : X.N[i]? = some nm := by rfl)
    (hv : Vis X.env.scope nm := by first | exact Or.inl rfl | exact Or.inr (Or.inl rfl) | exact Or.inr (Or.inr rfl)) (hd : (nm == ("__debug__" : Str)) = false := by decide) (hcd : (nm == ("__classdict__" : Str)) = false := by decide)
    (hs : swapsWith e (some (.Subscript (.Name nm npos) ke ipos)) pos.line X.env = pure false := by rfl) : BB X ρ (.Assign [.Subscript (.Name nm npos) ke ipos] e pos :: rest) E := fun W F Hs H σ D' tk ER1 g => by
  refine RSs.cons (ps_dput (room1 hr) (pe_var hN hv hd hcd) pe_RE pe_RE hs) ?_
  refine he F Hs H σ _ ER1 fun v Hs1 H1 X1 hv => ?_
  have E1 := ER1.ext X1
  obtain ⟨q, u, g1, g2, g3, g4, g5⟩ := E1.o i _ hO
  have g5' : u = .dK (ks.map kI) := g5
  subst g5'
  refine ⟨.ref q, g1, ?_⟩
  refine hke F Hs1 H1 σ _ E1 fun kv Hs2 H2 X2 hkv => ?_
  have E2 := E1.ext X2
  have g4' : H2 q = some (.dK (ks.map kI)) := X2.same E1.s _ _ g4
  rw [dq_int hkv, dq_bool hv]
  have hl : (ks.map kI).length < sizeLine := by
    rw [List.length_map]
    exact Nat.lt_of_lt_of_le hz (by decide)
  refine ⟨q, _, rfl, DPut.k (k := Sum.inl j) g4' hl, ?_⟩
  rw [putI]
  exact hb W F Hs2 _ σ D' tk (E2.mut hO g1 rfl) (g.mono (X1.a.trans X2.a))
/-- list(d) -/
theorem o_listI {p : Pos} (hc : X.calm = true) (hm : X.mg "list" = none) (hde : EE X ρ de (DcI ks)) (hg : Gl X "list" := by rfl) (he : starEach [de] X.env = (false, eval de X.env) :: starEach [] X.env := by rfl) :
    EO X ρ (.Call (.Name "list" p) [de] [] pos) (OwnL (ks.map PyData.int)) :=
  eo_callTy (call_list_dK hc) hm boot_list (ea_cons hde ea_nil he) (fun Hs H vs Q s h q => by
    obtain ⟨v, rfl, a, rfl, ha⟩ := tys1 h
    refine ⟨a, _, rfl, s _ _ ha, fun p hn => ?_⟩
    refine q p _ _ _ (Ext.newO s hn) hn (s.free hn) upd_same ⟨_, rfl, ?_⟩
    rw [List.map_map]
    clear ha h q hde
    induction ks with
    | nil => exact .nil
    | cons i r ih => exact .cons (.int i) ih) hg (he := he)
end
/-! pairs of heads -/
abbrev HdP : Type := Hd × Hd
def nk1 (h : Hd) : NestedKey := .tup [.text h.1, .num h.2]
def nk (k : HdP) : NestedKey := .tup [nk1 k.1, nk1 k.2]
def nkD (k : HdP) : PyData := .tuple [hdD k.1, hdD k.2]
theorem nk1_inj {a b : Hd} (h : nk1 a = nk1 b) : a = b := by
  obtain ⟨x, i⟩ := a
  obtain ⟨y, j⟩ := b
  simp only [nk1, NestedKey.tup.injEq, List.cons.injEq, NestedKey.text.injEq, NestedKey.num.injEq, and_true] at h
  rw [h.1, h.2]
theorem nk_inj {a b : HdP} (h : nk a = nk b) : a = b := by
  obtain ⟨x, i⟩ := a
  obtain ⟨y, j⟩ := b
  simp only [nk, NestedKey.tup.injEq, List.cons.injEq, and_true] at h
  rw [nk1_inj h.1, nk1_inj h.2]
theorem nk_depth (k : HdP) : (nk k).depth ≤ 8 := by simp [nk, nk1, NestedKey.depth, NestedKey.depthAll]
section
variable {X : Cx} {pins : List (Addr × Obj)} {σ : L2.St} {H : Hp} {s : Shared}
theorem tup_at (I : Inv X pins σ H s) {a : Addr} {xs : List V} (h : H a = some (.tup xs)) : ∃ (o : Obj) (n : Nat) (its : List Value), s.heap.get? a = some o ∧ o.cls = .type "tuple" ∧ o.data = .seq its.toArray n ∧ Vals xs its := by
  obtain ⟨_, its, r, o, h1, h2, n, h3⟩ := (show ObjOk X.prog X.w H s.heap a (.tup xs) from I.hok a _ h)
  exact ⟨o, n, its, h1, h2, h3, r⟩
theorem nest1 (I : Inv X pins σ H s) {v : V} {u : Value} {h : Hd} (g : Dq H v (hdD h)) (r : RelV v u) : NestedIs s.heap (nk1 h) u := by
  obtain ⟨a, rfl, ha⟩ := dq_hd g
  cases r
  obtain ⟨o, n, its, h1, h2, h3, r⟩ := tup_at I ha
  refine .tup h1 h2 h3 ?_
  cases r with
  | cons r1 r2 =>
    cases r2 with
    | cons r2 r3 =>
      cases r3
      obtain ⟨t, rfl⟩ := r1
      obtain ⟨t', rfl⟩ := r2
      exact .cons (.text _ _) (.cons (.int _ _) .nil)
theorem nest2 (I : Inv X pins σ H s) {v : V} {u : Value} {k : HdP} (g : Dq H v (nkD k)) (r : RelV v u) : ∃ a, v = .ref a ∧ u = .ref a ∧ NestedIs s.heap (nk k) (.ref a) := by
  obtain ⟨a, xs, rfl, ha, hs⟩ := dq_tup g
  cases r
  obtain ⟨o, n, its, h1, h2, h3, r⟩ := tup_at I ha
  refine ⟨a, rfl, rfl, .tup h1 h2 h3 ?_⟩
  cases hs with
  | cons d1 d2 =>
    cases d2 with
    | cons d2 d3 =>
      cases d3
      cases r with
      | cons r1 r2 =>
        cases r2 with
        | cons r2 r3 =>
          cases r3
          exact .cons (nest1 I d1 r1) (.cons (nest1 I d2 r2) .nil)
end
abbrev Led := List (HdP × Addr)
def ledX (L : Led) : List (NestedKey × Addr × Value) := L.map fun p => (nk p.1, p.2, Value.bool true)
def LedA (P : Program) (w : World) (d : Addr) (L : Led) (h : Heap) : Prop := (d == sysModules) = false ∧ L.length ≤ sizeLine ∧ ∃ o es ep, h.get? d = some o ∧ o.ExactDict ∧ o.data = .dict es ep ∧ es.toList = (ledX L).map (entryOfKey (nestedKind P w)) ∧ ((ledX L).map (·.1)).Nodup
def LedO (P : Program) (w : World) (d : Addr) (L : Led) : HO := .ext fun h => LedA P w d L h
theorem ledO_ok {P : Program} {w : World} {H : Hp} {h : Heap} {d : Addr} {L : Led} (x : LedA P w d L h) : ObjOk P w H h d (LedO P w d L) := by
  have ⟨z1, z2, o, es, ep, ho, r⟩ := x
  refine ⟨x, ⟨o, ho⟩, fun h1 h2 y k => ?_⟩
  have ⟨y1, y2, o', es', ep', ho', r'⟩ := (show LedA P w d L h1 from y)
  exact ⟨y1, y2, o', es', ep', k o' ho', r'⟩
def OwnN (P : Program) (w : World) (ks : List HdP) : Ow := ⟨fun H a u => ∃ L : Led, u = LedO P w a L ∧ L.map (·.1) = ks ∧ ∀ p ∈ L, Dq H (.ref p.2) (nkD p.1), fun e ⟨L, h1, h2, h3⟩ => ⟨L, h1, h2, fun p hp => dq_mono e _ _ (h3 p hp)⟩, fun ⟨L, h, _⟩ ⟨ys, z⟩ => by rw [h] at z; unfold LedO at z; cases z⟩
def addN (ks : List HdP) (k : HdP) : List HdP := if k ∈ ks then ks else ks ++ [k]
theorem ledX_at {L : Led} {k : HdP} : (atKey (ledX L) (nk k)).isSome = decide (k ∈ L.map (·.1)) := by
  induction L with
  | nil => rfl
  | cons p r ih =>
    unfold ledX atKey at ih ⊢
    rw [List.map_cons, List.find?_cons]
    by_cases e : p.1 = k
    · have : decide (nk p.1 = nk k) = true := decide_eq_true (by rw [e])
      rw [this]
      simp [e]
    · have : decide (nk p.1 = nk k) = false := decide_eq_false fun z => e (nk_inj z)
      rw [this]
      have e' : ¬ k = p.1 := fun z => e z.symm
      simp only [List.map_cons, List.mem_cons, e', false_or]
      exact ih
theorem ledX_put {L : Led} {k : HdP} {a : Addr} : ∃ L' : Led, storedH (ledX L) (nk k) a (.bool true) = ledX L' ∧ L'.map (·.1) = addN (L.map (·.1)) k ∧ ∀ p ∈ L', p ∈ L ∨ p = (k, a) := by
  unfold storedH
  rw [ledX_at]
  unfold addN
  by_cases e : k ∈ L.map (·.1)
  · refine ⟨L, ?_, by rw [if_pos e], fun p hp => .inl hp⟩
    rw [if_pos (by simpa using e)]
    unfold ledX
    rw [List.map_map]
    refine List.map_congr_left fun p hp => ?_
    show putAt (nk k) (.bool true) (nk p.1, p.2, .bool true) = _
    unfold putAt
    split <;> rfl
  · refine ⟨L ++ [(k, a)], ?_, by rw [if_neg e, List.map_append]; rfl, fun p hp => ?_⟩
    · rw [if_neg (by simpa using e)]
      unfold ledX
      rw [List.map_append]
      rfl
    · rcases List.mem_append.mp hp with z | z
      · exact .inl z
      · exact .inr (List.mem_singleton.mp z)
section
variable {X : Cx} {pins : List (Addr × Obj)} {σ : L2.St} {H : Hp} {s : Shared} {d : Addr} {L : Led}
theorem led_of (I : Inv X pins σ H s) (h : H d = some (LedO X.prog X.w d L)) (hk : ∀ p ∈ L, Dq H (.ref p.2) (nkD p.1)) : (d == sysModules) = false ∧ L.length ≤ sizeLine ∧ s.heap.DictOfH (nestedKind X.prog X.w) d (ledX L) := by
  obtain ⟨z1, z2, o, es, ep, h1, h2, h3, h4, h5⟩ := (show LedA X.prog X.w d L s.heap from (I.hok d _ h).1)
  refine ⟨z1, z2, o, es, ep, h1, h2, h3, h4, fun x hx => ?_, h5⟩
  obtain ⟨p, hp, rfl⟩ := List.mem_map.mp hx
  obtain ⟨a, e1, e2, e3⟩ := nest2 I (hk p hp) (u := .ref p.2) rfl
  cases e2
  exact ⟨e3, nk_depth _⟩
end
section
variable {X : Cx} {ρ : List Sl} {e ke de : Expr} {ks : List HdP} {kk : HdP} {pos : Pos} {rest : List Stmt} {E : En} {k : Nat}
def tNewN (X : Cx) : TE := fun _ H Q => ∀ p, H p = none → Q (.ref p) (upd H p (LedO X.prog X.w p []))
theorem pe_dnewN : PE X (.Dict [] [] pos) (tNewN X) := ⟨fun pins s σ H Q I h =>
  wpAny_Dict_empty ⟨.ref s.heap.objs.size, _, I.laid (a := s.heap.objs.size) (o := LedO X.prog X.w s.heap.objs.size []) (t' := s.toks) (fun _ _ q => Heap.get?_push_of_some _ q) (Nat.le_refl _)
    (ledO_ok ⟨beq_eq_false_iff_ne.mpr (Ne.symm (Nat.ne_of_lt I.big)), Nat.zero_le _, _, #[], 0, Heap.get?_push_size _ rfl, ⟨rfl, rfl, rfl⟩, rfl, rfl, List.nodup_nil⟩), rfl, h _ (I.hok.fresh (Nat.le_refl _))⟩⟩
theorem eo_dnewN : EO X ρ (.Dict [] [] pos) (OwnN X.prog X.w []) := fun F Hs H σ Q E q => RE.of pe_dnewN fun p hp => q p _ Hs _ (Ext.newO E.s hp) hp (E.s.free hp) upd_same ⟨[], rfl, rfl, fun p hp => nomatch hp⟩
def tInN (X : Cx) (ty : TE) (i : Nat) : TE := fun σ H Q => ty σ H fun y H1 => ∃ (d : Addr) (L : Led) (kk : HdP), σ[i]? = some (some (.ref d)) ∧ H1 d = some (LedO X.prog X.w d L) ∧ (∀ p ∈ L, Dq H1 (.ref p.2) (nkD p.1)) ∧ Dq H1 y (nkD kk) ∧ Q (.bl (decide (kk ∈ L.map (·.1)))) H1
theorem pc_inN (i : Nat) {nm : Str} {npos : Pos} {ty : TE} (hu : X.A.units + 9 < cLine) (hi : PE X ke ty) (hN : X.N[i]? = some nm) (hv : Vis X.env.scope nm) (hd : (nm == ("__debug__" : Str)) = false) (hcd : (nm == ("__classdict__" : Str)) = false) : PC X .In ke (.Name nm npos) (tInN X ty i) := by
  refine ⟨fun pins s σ H Q I h => ?_⟩
  refine thn (hi.run pins s σ H _ I h) fun iv s1 ⟨y, H1, I1, ry, d, L, kk, g1, g2, g3, g4, q1⟩ => ?_
  refine thn ((pe_var hN hv hd hcd).run pins s1 σ H1 (fun x H2 => x = .ref d ∧ H2 = H1) I1 ⟨.ref d, g1, rfl, rfl⟩) fun u s2 ⟨x, H2, I2, rx, ex, eH⟩ => ?_
  subst ex eH
  obtain rfl : u = Value.ref d := rx
  obtain ⟨z1, z2, dd⟩ := led_of I2 g2 g3
  obtain ⟨a, e1, rfl, e3⟩ := nest2 I2 g4 ry
  refine wpAny_in_heap (knd := nestedKind X.prog X.w) (show X.A.units + 1 + 8 < cLine by omega) ⟨e3, nk_depth _⟩ z1 dd ?_
  rw [ledX_at]
  exact ⟨.bl _, H2, I2.tok _, rfl, q1⟩
theorem room9 {A : Around} (hr : Room k A) : A.units + 9 < cLine := by have := hr.un; omega
/-- a pair of heads in own -/
theorem ew_inN (i : Nat) {nm : Str} {npos : Pos} (hr : Room k X.A) (hO : ρ[i]? = some (.ow (OwnN X.prog X.w ks))) (hke : EE X ρ ke (D (nkD kk))) (hN : X.N[i]? = some nm := by rfl)
    (hv : Vis X.env.scope nm := by first | exact Or.inl rfl | exact Or.inr (Or.inl rfl) | exact Or.inr (Or.inr rfl)) (hd : (nm == ("__debug__" : Str)) = false := by decide) (hcd : (nm == ("__classdict__" : Str)) = false := by decide)
    (hm : behindInMarks .In (.Name nm npos) = false := by rfl) : ET X ρ (.Compare ke [.In] [.Name nm npos] pos) (decide (kk ∈ ks)) := fun F Hs H σ Q E q => by
  refine RT.of (pt_cmp (pc_inN i (room9 hr) pe_RE hN hv hd hcd) hm) ?_
  refine hke F Hs H σ _ E fun kv Hs1 H1 X1 hkv => ?_
  have E1 := E.ext X1
  obtain ⟨p, u, g1, g2, g3, g4, L, rfl, g5, g6⟩ := E1.o i _ hO
  refine ⟨p, L, kk, g1, g4, fun p hp => dq_mono X1.b _ _ (g6 p hp), dq_mono X1.b _ _ hkv, ?_⟩
  rw [g5]
  exact ⟨_, rfl, q _ _ X1⟩
theorem ee_inN (i : Nat) {nm : Str} {npos : Pos} (hr : Room k X.A) (hO : ρ[i]? = some (.ow (OwnN X.prog X.w ks))) (hke : EE X ρ ke (D (nkD kk))) (hN : X.N[i]? = some nm := by rfl)
    (hv : Vis X.env.scope nm := by first | exact Or.inl rfl | exact Or.inr (Or.inl rfl) | exact Or.inr (Or.inr rfl)) (hd : (nm == ("__debug__" : Str)) = false := by decide) (hcd : (nm == ("__classdict__" : Str)) = false := by decide)
    (hm : behindInMarks .In (.Name nm npos) = false := by rfl) : EE X ρ (.Compare ke [.In] [.Name nm npos] pos) (D (.bool (decide (kk ∈ ks)))) := fun F Hs H σ Q E q => by
  refine RE.of (pe_cmp (pc_inN i (room9 hr) pe_RE hN hv hd hcd) hm) ?_
  refine hke F Hs H σ _ E fun kv Hs1 H1 X1 hkv => ?_
  have E1 := E.ext X1
  obtain ⟨p, u, g1, g2, g3, g4, L, rfl, g5, g6⟩ := E1.o i _ hO
  refine ⟨p, L, kk, g1, g4, fun p hp => dq_mono X1.b _ _ (g6 p hp), dq_mono X1.b _ _ hkv, ?_⟩
  rw [g5]
  exact q _ _ _ X1 (.bl _)
def sPutN (X : Cx) (i : Nat) (ty tv : TE) : TS := fun D' σ H => tv σ H fun v H1 => ∃ d : Addr, σ[i]? = some (some (.ref d)) ∧ ty σ H1 fun y H3 => ∃ (L : Led) (kk : HdP), H3 d = some (LedO X.prog X.w d L) ∧ (∀ p ∈ L, Dq H3 (.ref p.2) (nkD p.1)) ∧ Dq H3 y (nkD kk) ∧ v = .bl true ∧ L.length < sizeLine ∧
  ∀ (L' : Led) (a : Addr), y = .ref a → L'.map (·.1) = addN (L.map (·.1)) kk → (∀ p ∈ L', p ∈ L ∨ p = (kk, a)) → D'.nx σ (upd H3 d (LedO X.prog X.w d L'))
theorem ps_putN (i : Nat) {nm : Str} {npos ipos : Pos} {ty tv : TE} (hu : X.A.units + 9 < cLine) (hi : PE X ke ty) (hN : X.N[i]? = some nm) (hv : Vis X.env.scope nm) (hd : (nm == ("__debug__" : Str)) = false) (hcd : (nm == ("__classdict__" : Str)) = false) (hva : PE X e tv)
    (hs : swapsWith e (some (.Subscript (.Name nm npos) ke ipos)) pos.line X.env = pure false) : PS X (.Assign [.Subscript (.Name nm npos) ke ipos] e pos) (sPutN X i ty tv) := by
  refine ⟨fun pins s σ H D' I h => ?_⟩
  refine wpAny_Assign_Subscript (thn (hva.run pins s σ H _ I h) fun r s1 ⟨v, H1, I1, rv, d, gi, q1⟩ => ?_) hs
  refine thn ((pe_var hN hv hd hcd).run pins s1 σ H1 (fun x H2 => x = .ref d ∧ H2 = H1) I1 ⟨.ref d, gi, rfl, rfl⟩) fun u s2 ⟨x, H2, I2, rx, ex, eH⟩ => ?_
  subst ex eH
  obtain rfl : u = Value.ref d := rx
  refine thn (hi.run pins s2 σ H2 _ I2 q1) fun iv s3 ⟨y, H3, I3, ry, L, kk, g2, g3, g4, ev, gl, q3⟩ => ?_
  subst ev
  obtain rfl : r = Value.bool true := rv
  obtain ⟨z1, z2, dd⟩ := led_of I3 g2 g3
  obtain ⟨a, e1, rfl, e3⟩ := nest2 I3 g4 ry
  obtain ⟨L', p1, p2, p3⟩ := ledX_put (L := L) (k := kk) (a := a)
  refine wpAny_setItem_heap (knd := nestedKind X.prog X.w) (hsz := by unfold ledX; rw [List.length_map]; exact z2) (show X.A.units + 1 + 8 < cLine by omega) ⟨e3, nk_depth _⟩ dd fun h' dd' hsb => ?_
  rw [p1] at dd'
  obtain ⟨o, es, ep, h1, h2, h3, h4, _, h5⟩ := dd'
  have hl : L'.length ≤ sizeLine := by
    have e : (L'.map (·.1)).length = (addN (L.map (·.1)) kk).length := by rw [p2]
    rw [List.length_map] at e
    have : (addN (L.map (·.1)) kk).length ≤ L.length + 1 := by
      unfold addN
      split
      · rw [List.length_map]; omega
      · rw [List.length_append, List.length_map]; exact Nat.le_refl _
    omega
  exact ⟨σ, _, d_write I3 (by rw [g2]; exact True.intro) hsb ⟨o, h1⟩ (ledO_ok ⟨z1, hl, o, es, ep, h1, h2, h3, h4, h5⟩), q3 L' a e1 p2 p3⟩
/-- own[pair of heads] = True -/
theorem bb_dputN (i : Nat) {nm : Str} {npos ipos : Pos} (hr : Room k X.A) (hO : ρ[i]? = some (.ow (OwnN X.prog X.w ks))) (he : EE X ρ e (D (.bool true))) (hke : EE X ρ ke (D (nkD kk))) (hz : ks.length < 100000) (hb : BB X (ρ.set i (.ow (OwnN X.prog X.w (addN ks kk)))) rest E) (hN : X.N[i]? = some nm := by rfl)
    (hv : Vis X.env.scope nm := by first | exact Or.inl rfl | exact Or.inr (Or.inl rfl) | exact Or.inr (Or.inr rfl)) (hd : (nm == ("__debug__" : Str)) = false := by decide) (hcd : (nm == ("__classdict__" : Str)) = false := by decide)
    (hs : swapsWith e (some (.Subscript (.Name nm npos) ke ipos)) pos.line X.env = pure false := by rfl) : BB X ρ (.Assign [.Subscript (.Name nm npos) ke ipos] e pos :: rest) E := fun W F Hs H σ D' tk ER1 g => by
  refine RSs.cons (ps_putN i (room9 hr) pe_RE hN hv hd hcd pe_RE hs) ?_
  refine he F Hs H σ _ ER1 fun v Hs1 H1 X1 hv => ?_
  have E1 := ER1.ext X1
  obtain ⟨q, u, g1, g2, g3, g4, L, rfl, g5, g6⟩ := E1.o i _ hO
  refine ⟨q, g1, ?_⟩
  refine hke F Hs1 H1 σ _ E1 fun kv Hs2 H2 X2 hkv => ?_
  have E2 := E1.ext X2
  have g4' : H2 q = some (LedO X.prog X.w q L) := X2.same E1.s _ _ g4
  have hl : L.length < sizeLine := by
    rw [← g5, List.length_map] at hz
    exact Nat.lt_of_lt_of_le hz (by decide)
  refine ⟨L, kk, g4', fun p hp => dq_mono (X2.a.trans X2.b) _ _ (g6 p hp), dq_mono X2.b _ _ hkv, dq_bool hv, hl, fun L' a e1 e2 e3 => ?_⟩
  rw [g5] at e2
  refine hb W F Hs2 _ σ D' tk (E2.mut hO g1 ⟨L', rfl, e2, fun p hp => ?_⟩) (g.mono (X1.a.trans X2.a))
  rcases e3 p hp with z | z
  · exact dq_mono X2.a _ _ (g6 p z)
  · rw [z]
    rw [e1] at hkv
    exact hkv
end
end DL

set_option Elab.async false
set_option linter.all false
set_option maxRecDepth 100000
set_option maxHeartbeats 4000000
/-! plain: == of data, heads, rules -/
namespace Q
open PySem DL
mutual
theorem eqv_nb : ∀ {a b : PyData}, nb a = true → nb b = true → (PyData.eqv a b = true ↔ a = b)
  | .none, .none, _, _ => by simp [PyData.eqv]
  | .none, .int _, _, _ => by simp [PyData.eqv]
  | .none, .str _, _, _ => by simp [PyData.eqv]
  | .none, .tuple _, _, _ => by simp [PyData.eqv]
  | .none, .list _, _, _ => by simp [PyData.eqv]
  | .int _, .none, _, _ => by simp [PyData.eqv]
  | .int _, .int _, _, _ => by simp [PyData.eqv]
  | .int _, .str _, _, _ => by simp [PyData.eqv]
  | .int _, .tuple _, _, _ => by simp [PyData.eqv]
  | .int _, .list _, _, _ => by simp [PyData.eqv]
  | .str _, .none, _, _ => by simp [PyData.eqv]
  | .str _, .int _, _, _ => by simp [PyData.eqv]
  | .str _, .str _, _, _ => by simp [PyData.eqv]
  | .str _, .tuple _, _, _ => by simp [PyData.eqv]
  | .str _, .list _, _, _ => by simp [PyData.eqv]
  | .tuple _, .none, _, _ => by simp [PyData.eqv]
  | .tuple _, .int _, _, _ => by simp [PyData.eqv]
  | .tuple _, .str _, _, _ => by simp [PyData.eqv]
  | .tuple xs, .tuple ys, h, g => by
    have := eqvs_nb (as := xs) (bs := ys) (by simpa [nb] using h) (by simpa [nb] using g)
    simpa [PyData.eqv] using this
  | .tuple _, .list _, _, _ => by simp [PyData.eqv]
  | .list _, .none, _, _ => by simp [PyData.eqv]
  | .list _, .int _, _, _ => by simp [PyData.eqv]
  | .list _, .str _, _, _ => by simp [PyData.eqv]
  | .list _, .tuple _, _, _ => by simp [PyData.eqv]
  | .list xs, .list ys, h, g => by
    have := eqvs_nb (as := xs) (bs := ys) (by simpa [nb] using h) (by simpa [nb] using g)
    simpa [PyData.eqv] using this
  | .bool _, _, h, _ => by simp [nb] at h
  | .dict _, _, h, _ => by simp [nb] at h
  | .none, .bool _, _, h => by simp [nb] at h
  | .none, .dict _, _, h => by simp [nb] at h
  | .int _, .bool _, _, h => by simp [nb] at h
  | .int _, .dict _, _, h => by simp [nb] at h
  | .str _, .bool _, _, h => by simp [nb] at h
  | .str _, .dict _, _, h => by simp [nb] at h
  | .tuple _, .bool _, _, h => by simp [nb] at h
  | .tuple _, .dict _, _, h => by simp [nb] at h
  | .list _, .bool _, _, h => by simp [nb] at h
  | .list _, .dict _, _, h => by simp [nb] at h
theorem eqvs_nb : ∀ {as bs : List PyData}, nbL as = true → nbL bs = true → (PyData.eqvAll as bs = true ↔ as = bs)
  | [], [], _, _ => by simp [PyData.eqvAll]
  | [], _ :: _, _, _ => by simp [PyData.eqvAll]
  | _ :: _, [], _, _ => by simp [PyData.eqvAll]
  | a :: as, b :: bs, h, g => by
    have h' : nb a = true ∧ nbL as = true := by simpa [nbL] using h
    have g' : nb b = true ∧ nbL bs = true := by simpa [nbL] using g
    have e1 := eqv_nb h'.1 g'.1
    have e2 := eqvs_nb h'.2 g'.2
    simp [PyData.eqvAll, e1, e2]
end
theorem nbL_mem : ∀ {as : List PyData}, nbL as = true ↔ ∀ a ∈ as, nb a = true
  | [] => by simp [nbL]
  | a :: as => by simp [nbL, nbL_mem (as := as)]
theorem canLayAll_mem : ∀ {as : List PyData}, PyData.canLayAll0 as = true ↔ ∀ a ∈ as, a.canLay0 = true
  | [] => by simp [PyData.canLayAll0]
  | a :: as => by simp [PyData.canLayAll0, canLayAll_mem (as := as)]
theorem depthAll_le : ∀ {as : List PyData} {n : Nat}, (∀ a ∈ as, a.depth ≤ n) → PyData.depthAll as ≤ n
  | [], n, _ => by simp [PyData.depthAll]
  | a :: as, n, h => by
    have h1 := h a List.mem_cons_self
    have h2 := depthAll_le (as := as) fun x hx => h x (List.mem_cons_of_mem _ hx)
    simp only [PyData.depthAll]
    omega
theorem any_eqv {ds : List PyData} {d : PyData} (h : ∀ x ∈ ds, nb x = true) (g : nb d = true) : (ds.any fun z => PyData.eqv z d) = true ↔ d ∈ ds := by
  rw [List.any_eq_true]
  constructor
  · rintro ⟨x, hx, e⟩
    rw [(eqv_nb (h x hx) g).mp e] at hx
    exact hx
  · intro hd
    exact ⟨d, hd, (eqv_nb (h d hd) g).mpr rfl⟩
theorem strOk_name {s : Str} (h : NameOk s) : PyData.strOk s = true := by
  obtain ⟨h1, h2, h3⟩ := h
  unfold PyData.strOk
  rw [← Array.all_toList, List.all_eq_true]
  intro c hc
  have := (h3 c hc).2
  exact decide_eq_true (by omega)
theorem Tm.nb_ : ∀ {d : PyData}, Tm d → nb d = true := by
  intro d h
  induction h with
  | blk n _ _ => simp [nb]
  | app s as hs hl h ih => simp only [nb, nbL, Bool.true_and]; exact nbL_mem.mpr ih
theorem Tm.canLay {d : PyData} (h : Tm d) : d.canLay0 = true := by
  induction h with
  | blk n _ _ => simp [PyData.canLay0]
  | app s as hs hl h ih =>
    simp only [PyData.canLay0, PyData.canLayAll0, strOk_name hs, Bool.true_and]
    exact canLayAll_mem.mpr ih
theorem Tm.noList_ {d : PyData} (h : Tm d) : noList d = true := by
  induction h with
  | blk n _ _ => simp [noList]
  | app s as hs hl h ih =>
    simp only [noList, noLists, Bool.true_and]
    exact noLists_mem.mpr ih
theorem Tm.depth {d : PyData} (h : Tm d) : d.depth ≤ lev d := by
  induction h with
  | blk n _ _ => simp [PyData.depth]
  | app s as hs hl h ih =>
    rw [lev_app]
    simp only [PyData.depth, PyData.depthAll]
    have : PyData.depthAll as ≤ levL as := depthAll_le fun a ha => Nat.le_trans (ih a ha) (levL_mem ha)
    omega
theorem Tm.shaped {d : PyData} (h : Tm d) (l : lev d ≤ 60) : SeqAt.shaped d = true := by
  have := h.depth
  simp only [SeqAt.shaped, h.canLay, Bool.true_and, decide_eq_true_eq]
  omega
/-! heads -/
def hdOf : PyData → Hd
  | .tuple (.str s :: as) => (s, as.length)
  | _ => (Str.empty, 0)
def isApp : PyData → Bool
  | .tuple (.str _ :: _) => true
  | _ => false
theorem headD_app {d : PyData} (h : isApp d = true) : headD d = hdD (hdOf d) := by
  unfold isApp at h
  split at h
  · rfl
  · cases h
theorem hdD_inj {a b : Hd} (h : hdD a = hdD b) : a = b := by
  obtain ⟨x, i⟩ := a
  obtain ⟨y, j⟩ := b
  simp only [hdD, PyData.tuple.injEq, List.cons.injEq, PyData.str.injEq, PyData.int.injEq, and_true] at h
  rw [h.1, h.2]
theorem nb_hd (h : Hd) : nb (hdD h) = true := by simp [hdD, nb, nbL]
theorem shaped_hd {h : Hd} (g : NameOk h.1) : SeqAt.shaped (hdD h) = true := by
  simp [SeqAt.shaped, hdD, PyData.canLay0, PyData.canLayAll0, strOk_name g, PyData.depth, PyData.depthAll]
theorem Tm.app_ {d : PyData} (h : Tm d) (g : isApp d = true) : ∃ s as, d = .tuple (.str s :: as) ∧ NameOk s ∧ as.length ≤ 9 ∧ ∀ a ∈ as, Tm a := by
  rcases h.cases_ with ⟨n, rfl, _, _⟩ | h
  · cases g
  · exact h
theorem Tm.hdName {d : PyData} (h : Tm d) (g : isApp d = true) : NameOk (hdOf d).1 := by
  obtain ⟨s, as, rfl, hs, _, _⟩ := h.app_ g
  exact hs
def addK (ks : List Hd) (h : Hd) : List Hd := if h ∈ ks then ks else ks ++ [h]
def uniqH (hs : List Hd) : List Hd := hs.foldl addK []
theorem mem_addK {ks : List Hd} {h x : Hd} : x ∈ addK ks h ↔ x ∈ ks ∨ x = h := by
  unfold addK
  split
  · constructor
    · exact .inl
    · rintro (g | rfl) <;> assumption
  · rw [List.mem_append, List.mem_singleton]
theorem nodup_addK {ks : List Hd} {h : Hd} (n : ks.Nodup) : (addK ks h).Nodup := by
  unfold addK
  split
  · exact n
  · rename_i g
    exact List.nodup_append.mpr ⟨n, List.nodup_cons.mpr ⟨List.not_mem_nil, List.nodup_nil⟩, fun a ha b hb e => g (by rw [← List.mem_singleton.mp hb, ← e]; exact ha)⟩
theorem len_addK {ks : List Hd} {h : Hd} : (addK ks h).length ≤ ks.length + 1 := by
  unfold addK
  split
  · omega
  · rw [List.length_append]; exact Nat.le_refl _
theorem fold_addK : ∀ (hs ks : List Hd), (∀ x, x ∈ hs.foldl addK ks ↔ x ∈ ks ∨ x ∈ hs) ∧ (ks.Nodup → (hs.foldl addK ks).Nodup) ∧ (hs.foldl addK ks).length ≤ ks.length + hs.length
  | [], ks => ⟨fun x => by simp, fun n => n, by simp⟩
  | h :: hs, ks => by
    obtain ⟨h1, h2, h3⟩ := fold_addK hs (addK ks h)
    refine ⟨fun x => ?_, fun n => h2 (nodup_addK n), ?_⟩
    · rw [List.foldl_cons, h1, mem_addK, List.mem_cons, or_assoc]
    · rw [List.foldl_cons, List.length_cons]
      have := len_addK (ks := ks) (h := h)
      omega
theorem mem_uniqH {hs : List Hd} {x : Hd} : x ∈ uniqH hs ↔ x ∈ hs := by rw [uniqH, (fold_addK hs []).1]; simp
theorem nodup_uniqH (hs : List Hd) : (uniqH hs).Nodup := (fold_addK hs []).2.1 List.nodup_nil
theorem len_uniqH (hs : List Hd) : (uniqH hs).length ≤ hs.length := by have := (fold_addK hs []).2.2; simpa [uniqH] using this
theorem uniqH_snoc (hs : List Hd) (h : Hd) : uniqH (hs ++ [h]) = addK (uniqH hs) h := by unfold uniqH; rw [List.foldl_append]; rfl
/-- the order of heads -/
def hle (a b : Hd) : Bool := dle (hdD a) (hdD b)
theorem sort_heads (hs : List Hd) : (hs.map hdD).mergeSort dle = (hs.mergeSort hle).map hdD := (PySem.W.sort_maps (r := hle) (s := dle) hdD (l := hs) fun _ _ _ _ => rfl).symm
/-! blanks -/
def blkStep (ks : List Int) (p : PyData) : List Int := match p with
  | .int i => addI ks i
  | _ => ks
def blkOf (ps : List PyData) : List Int := ps.foldl blkStep []
theorem mem_addI {ks : List Int} {i x : Int} : x ∈ addI ks i ↔ x ∈ ks ∨ x = i := by
  unfold addI
  split
  · constructor
    · exact .inl
    · rintro (g | rfl) <;> assumption
  · rw [List.mem_append, List.mem_singleton]
theorem fold_blk : ∀ (ps : List PyData) (ks : List Int), (∀ x, x ∈ ps.foldl blkStep ks ↔ x ∈ ks ∨ PyData.int x ∈ ps) ∧ (ps.foldl blkStep ks).length ≤ ks.length + ps.length
  | [], ks => ⟨fun x => by simp, by simp⟩
  | p :: ps, ks => by
    obtain ⟨h1, h2⟩ := fold_blk ps (blkStep ks p)
    have hl : (blkStep ks p).length ≤ ks.length + 1 := by
      unfold blkStep
      split
      · unfold addI
        split
        · omega
        · rw [List.length_append]; exact Nat.le_refl _
      · omega
    refine ⟨fun x => ?_, ?_⟩
    · rw [List.foldl_cons, h1, List.mem_cons]
      unfold blkStep
      split
      · rw [mem_addI, or_assoc]
        constructor
        · rintro (h | rfl | h)
          · exact .inl h
          · exact .inr (.inl rfl)
          · exact .inr (.inr h)
        · rintro (h | h | h)
          · exact .inl h
          · cases h
            exact .inr (.inl rfl)
          · exact .inr (.inr h)
      · rename_i hne
        constructor
        · rintro (h | h)
          · exact .inl h
          · exact .inr (.inr h)
        · rintro (h | h | h)
          · exact .inl h
          · exact absurd h.symm (hne x)
          · exact .inr h
    · rw [List.foldl_cons, List.length_cons]
      omega
theorem mem_blk {ps : List PyData} {x : Int} : x ∈ blkOf ps ↔ PyData.int x ∈ ps := by rw [blkOf, (fold_blk ps []).1]; simp
theorem len_blk (ps : List PyData) : (blkOf ps).length ≤ ps.length := by have := (fold_blk ps []).2; simpa [blkOf] using this
theorem blk_snoc (ps : List PyData) (p : PyData) : blkOf (ps ++ [p]) = blkStep (blkOf ps) p := by unfold blkOf; rw [List.foldl_append]; rfl
/-! rules -/
structure RuleOk (p : PyData × PyData) : Prop where
  tl : Tm p.1
  tr : Tm p.2
  al : isApp p.1 = true
  ll : lev p.1 ≤ 8
  lr : lev p.2 ≤ 8
  cl : cnt p.1 ≤ 1000
  cr : cnt p.2 ≤ 1000
  bl : ∀ i, PyData.int i ∈ parts p.2 → PyData.int i ∈ parts p.1
abbrev Rl := List (PyData × PyData)
def ruleD (p : PyData × PyData) : PyData := .tuple [p.1, p.2]
structure RlOk (rs : Rl) : Prop where
  ok : ∀ p ∈ rs, RuleOk p
  ln : rs.length ≤ 40
def madeU (rs : Rl) : List Hd := uniqH (rs.map fun p => hdOf p.1)
def madeH (rs : Rl) : List Hd := (madeU rs).mergeSort hle
theorem mem_madeH {rs : Rl} {x : Hd} : x ∈ madeH rs ↔ ∃ p ∈ rs, hdOf p.1 = x := by
  unfold madeH madeU
  rw [List.mem_mergeSort, mem_uniqH, List.mem_map]
def inMade (rs : Rl) (q : PyData) : Bool := isApp q && decide (hdOf q ∈ madeH rs)
def sideOf (rs : Rl) (p : PyData × PyData) : Rl := ((parts p.2).filter (inMade rs)).map fun q => (p.1, q)
def sides (rs : Rl) : Rl := rs.flatMap (sideOf rs)
def waysOf (cs : Rl) : List (Hd × Hd) := cs.map fun c => (hdOf c.1, hdOf c.2)
inductive Rch (ws : List (Hd × Hd)) (a : Hd) : Hd → Prop
  | one {b : Hd} : (a, b) ∈ ws → Rch ws a b
  | more {b c : Hd} : Rch ws a b → (b, c) ∈ ws → Rch ws a c
end Q

set_option Elab.async false
set_option linter.all false
set_option maxRecDepth 100000
set_option maxHeartbeats 4000000
namespace K53
open PySem PySem.Spec PyProof.Rows L2 DL Q
section
variable {P : Program} {w : World} {K : PySem.W.Frag} {mg : Str → Option Value} {base : Heap} {f : Addr} {fd : FuncData}
/-! blanks -/
def S_blanks : List Ty → Ty → Prop := fun Ts T => ∃ d : PyData, Tm d ∧ lev d ≤ 8 ∧ cnt d ≤ 1000 ∧ Ts = [D d] ∧ T = D (.list ((blkOf (parts d)).map PyData.int))
theorem sc_blanks : FnScope ["term", "found", "path", "place"] ["term"] (defScope sBlanks) := ⟨rfl, rfl, rfl, by decide +kernel, rfl, by decide +kernel, by decide +kernel⟩
theorem ok_blanks (B : Bi mg) (G1 : Fn P w K mg base 1 "is_whole" S_whole) (G : Fn P w K mg base 10 "parts_of" S_parts) (F : FnP K "blanks" "blanks" sBlanks f fd) : FnOk P w K mg base CX0 11 f fd ["term"] (spS S_blanks) := by
  refine fn_ok F sc_blanks (by rintro _ _ ⟨_, _, _, _, rfl, rfl⟩; rfl) ?_
  rintro cdv A outer s H E hr _ _ ⟨d, hd, hlv, hct, rfl, rfl⟩
  have h1 : Room 1 _ := hr.mono (by decide)
  have hn := sc_blanks.nd
  refine bb_setO 1 hn rfl (.inl rfl) eo_dnewI ?_
  have hpl := pf_len [] d
  have hpp := pf_parts [] d
  refine bb_for (fun i ρ => ∃ v m : Sl, ρ = [.va (D d), .ow (OwnI (blkOf ((parts d).take i))), v, m]) PassesOwn.never rfl (it_listD (ee_call G hr (ea_cons (ee_v 0 rfl) ea_nil) ⟨d, hd, hlv, hct, rfl, rfl⟩)) ⟨_, _, rfl⟩ ?_ ?_
  · rintro i T ρ' hT ⟨v, m, rfl⟩
    rw [List.getElem?_map, List.getElem?_map] at hT
    cases hi : (pf [] d)[i]? with
    | none => rw [hi] at hT; cases hT
    | some p =>
      rw [hi] at hT
      rw [← Option.some.inj hT]
      have hp : (parts d)[i]? = some p.2 := by rw [← hpp, List.getElem?_map, hi]; rfl
      have hlt : i < cnt d := by rw [← hpl]; exact (List.getElem?_eq_some_iff.mp hi).1
      have hbl := len_blk ((parts d).take i)
      rw [List.length_take, parts_len] at hbl
      have hnx : blkOf ((parts d).take (i + 1)) = blkStep (blkOf ((parts d).take i)) p.2 := by
        rw [List.take_succ, hp]
        exact blk_snoc _ _
      have htm := (hd.parts (List.mem_of_getElem? hp)).1
      refine ⟨_, _, gg_pair rfl (gg_name 2 hn rfl (.inl rfl)) (gg_name 3 hn rfl (.inl rfl)), ?_⟩
      rcases htm.cases_ with ⟨n, e, _, _⟩ | ⟨x, as, e, _⟩
      · refine bb_if0 (b := true) (ET.to (et_val (ee_call G1 h1 (ea_cons (ee_v 3 rfl) ea_nil) ⟨p.2, rfl, rfl⟩)) (by rw [e]; rfl)) (fun _ => ?_) (fun z => nomatch z)
        refine bb_dputI (j := n) 1 h1 rfl ee_bl (EE.d (ee_v 3 rfl) e) (by omega) (bb_nil (bb_nil ⟨.va (D (.tuple p.1)), .va (D p.2), ?_⟩))
        rw [hnx, e]
        rfl
      · refine bb_skip (ET.to (et_val (ee_call G1 h1 (ea_cons (ee_v 3 rfl) ea_nil) ⟨p.2, rfl, rfl⟩)) (by rw [e]; rfl)) (bb_nil ⟨.va (D (.tuple p.1)), .va (D p.2), ?_⟩)
        rw [hnx, e]
        rfl
  · rintro ρ' ⟨v, m, rfl⟩
    rw [List.length_map, List.length_map, hpl, ← parts_len, List.take_length]
    exact bb_freeze 1 rfl (O := OwnI _) (T := DcI _) ownI_fix (bb_ret (EO.d (o_listI rfl B.list (ee_v 1 rfl))))
/-! is_rule -/
theorem shaped_ints (is : List Int) : SeqAt.shaped (.list (is.map PyData.int)) = true := by
  have h1 : PyData.canLayAll0 (is.map PyData.int) = true := canLayAll_mem.mpr fun a ha => by
    obtain ⟨y, _, rfl⟩ := List.mem_map.mp ha
    rfl
  have h2 : PyData.depthAll (is.map PyData.int) ≤ 0 := depthAll_le fun a ha => by
    obtain ⟨y, _, rfl⟩ := List.mem_map.mp ha
    exact Nat.le_refl _
  unfold SeqAt.shaped
  rw [Bool.and_eq_true]
  refine ⟨by simpa [PyData.canLay0] using h1, decide_eq_true ?_⟩
  rw [PyData.depth]
  omega
def S_isrule : List Ty → Ty → Prop := fun Ts T => ∃ p : PyData × PyData, RuleOk p ∧ Ts = [D (ruleD p)] ∧ T = D (.bool true)
theorem sc_is_rule : FnScope ["thing", "there", "blank"] ["thing"] (defScope sIsRule) := ⟨rfl, rfl, rfl, by decide +kernel, rfl, by decide +kernel, by decide +kernel⟩
theorem ok_is_rule (B : Bi mg) (G1 : Fn P w K mg base 1 "is_whole" S_whole) (G2 : Fn P w K mg base 10 "is_term" S_isterm) (G3 : Fn P w K mg base 11 "blanks" S_blanks) (F : FnP K "is_rule" "is_rule" sIsRule f fd) : FnOk P w K mg base CX0 12 f fd ["thing"] (spS S_isrule) := by
  refine fn_ok F sc_is_rule (by rintro _ _ ⟨_, _, rfl, rfl⟩; rfl) ?_
  rintro cdv A outer s H E hr _ _ ⟨⟨l, r⟩, ok, rfl, rfl⟩
  have h1 : Room 1 _ := hr.mono (by decide)
  have h10 : Room 10 _ := hr.mono (by decide)
  have hn := sc_is_rule.nd
  have hl := len_blk (parts r)
  rw [parts_len] at hl
  have hcr : Q.cnt r ≤ 1000 := ok.cr
  have hal : isApp l = true := ok.al
  refine bb_skip (ET.to (EW.t (ew_or (et_not (et_val (e_isi B.isinstance (ee_v 0 rfl) (ee_bty B.tuple boot_tuple) (kit_tup _)))) fun _ => ew_or (t_neI (e_lenT B.len (ee_v 0 rfl)) ee_int) fun _ =>
    ew_or (et_not (et_val (ee_call G2 h10 (ea_cons (e_ixT (ee_v 0 rfl) ee_int (at_ 0 rfl rfl)) ea_nil) ⟨l, ok.tl, ok.ll, ok.cl, rfl, rfl⟩))) fun _ =>
    ew_or1 (et_not (et_val (ee_call G2 h10 (ea_cons (e_ixT (ee_v 0 rfl) ee_int (at_ 1 rfl rfl)) ea_nil) ⟨r, ok.tr, ok.lr, ok.cr, rfl, rfl⟩))))) rfl) ?_
  refine bb_set 1 hn rfl (.inr rfl) (ee_call G3 hr (ea_cons (e_ixT (ee_v 0 rfl) ee_int (at_ 0 rfl rfl)) ea_nil) ⟨l, ok.tl, ok.ll, ok.cl, rfl, rfl⟩) ?_
  refine bb_ret (EE.d (ee_and (ee_not (ee_call G1 h1 (ea_cons (e_ixT (ee_v 0 rfl) ee_int (at_ 0 rfl rfl)) ea_nil) ⟨l, rfl, rfl⟩)) fun _ => ee_one (e_all (bs := (blkOf (parts r)).map fun _ => true) rfl B.all (EE.d (EO.d (o_lc (own := [("blank", 2)]) ((blkOf (parts r)).map fun _ => PyData.bool true) rfl hn
    (it_listD (ee_call G3 hr (ea_cons (e_ixT (ee_v 0 rfl) ee_int (at_ 1 rfl rfl)) ea_nil) ⟨r, ok.tr, ok.lr, ok.cr, rfl, rfl⟩)) (blkOk_by (N := ["thing", "there", "blank"]) (sc := defScope sIsRule) (by decide +kernel)) ?_ ?_ ?_)) ?_))) ?_)
  · rw [List.length_map, List.length_map, List.length_map]
  · rw [List.length_map, List.length_map]
    omega
  · intro i T d hT hd
    rw [List.getElem?_map, List.getElem?_map] at hT
    rw [List.getElem?_map] at hd
    cases e : (blkOf (parts r))[i]? with
    | none => rw [e] at hT; cases hT
    | some c =>
      rw [e] at hT hd
      rw [← Option.some.inj hT, ← Option.some.inj hd]
      have hm := mem_blk.mpr (ok.bl c (mem_blk.mp (List.mem_of_getElem? e)))
      refine turn_keep (fun s H C cl fp => gg_name 2 hn rfl (.inl rfl)) fun s H C cl fp => EE.d (e_inD h1 (ee_v 2 rfl) (ee_v 1 rfl) rfl (shaped_ints _)) ?_
      rw [(any_eqv (ds := (blkOf (parts l)).map PyData.int) (d := .int c) (fun x hx => ?_) rfl).mpr (List.mem_map.mpr ⟨c, hm, rfl⟩)]
      obtain ⟨y, _, rfl⟩ := List.mem_map.mp hx
      rfl
  · rw [List.map_map]; rfl
  · have e1 : (((blkOf (parts r)).map fun _ => true).all _root_.id) = true := List.all_eq_true.mpr fun x hx => by
      obtain ⟨y, _, rfl⟩ := List.mem_map.mp hx
      rfl
    rw [e1]
    have e2 : wholeD l = false := by
      unfold isApp at hal
      split at hal
      · rfl
      · cases hal
    rw [e2]
    rfl
end
end K53

set_option Elab.async false
set_option linter.all false
set_option maxRecDepth 100000
set_option maxHeartbeats 4000000
/-! sets of heads as dicts; instances -/
namespace DL
open PySem PySem.W PySem.Spec PyProof.Rows L2 Q
def setD (ks : List Hd) : HTs := ks.map fun h => (h, D (.bool true))
theorem setD_keys (ks : List Hd) : (setD ks).map (·.1) = ks := by
  unfold setD
  rw [List.map_map]
  exact List.map_id' ks
theorem getH_set {ks : List Hd} {h : Hd} : (getH (setD ks) h).isSome = decide (h ∈ ks) := by
  induction ks with
  | nil => rfl
  | cons k r ih =>
    unfold getH setD at ih ⊢
    rw [List.map_cons, List.find?_cons]
    by_cases e : k = h
    · rw [decide_eq_true (show (k, D (.bool true)).1 = h from e)]
      simp [e]
    · rw [decide_eq_false (show ¬ (k, D (.bool true)).1 = h from e)]
      have e' : ¬ h = k := fun z => e z.symm
      simp only [List.mem_cons, e', false_or]
      exact ih
theorem putH_set (ks : List Hd) (h : Hd) : putH (setD ks) h (D (.bool true)) = setD (addK ks h) := by
  have e : ((setD ks).any fun p => decide (p.1 = h)) = decide (h ∈ ks) := by
    induction ks with
    | nil => rfl
    | cons k r ih =>
      unfold setD at ih ⊢
      rw [List.map_cons, List.any_cons, ih]
      by_cases e : k = h
      · simp [e]
      · have e' : ¬ h = k := fun z => e z.symm
        simp [e, e']
  unfold putH addK
  rw [e]
  by_cases g : h ∈ ks
  · rw [if_pos (by simpa using g), if_pos g]
    unfold setD
    rw [List.map_map]
    refine List.map_congr_left fun k hk => ?_
    show (if k = h then _ else _) = _
    split <;> rfl
  · rw [if_neg (by simpa using g), if_neg g]
    unfold setD
    rw [List.map_append]
    rfl
theorem getH_map {ks : List Hd} {F : Hd → Ty} {h : Hd} (g : h ∈ ks) : getH (ks.map fun h => (h, F h)) h = some (F h) := by
  induction ks with
  | nil => cases g
  | cons k r ih =>
    unfold getH at ih ⊢
    rw [List.map_cons, List.find?_cons]
    by_cases e : k = h
    · rw [decide_eq_true (show (k, F k).1 = h from e)]
      rw [← e]
      rfl
    · rw [decide_eq_false (show ¬ (k, F k).1 = h from e)]
      refine ih ?_
      rcases List.mem_cons.mp g with z | z
      · exact absurd z.symm e
      · exact z
theorem getH_none {kvs : HTs} {h : Hd} (g : h ∉ kvs.map (·.1)) : getH kvs h = none := by
  unfold getH
  rw [List.find?_eq_none.mpr]
  · rfl
  · intro p hp
    simp only [decide_eq_true_eq]
    intro e
    exact g (List.mem_map.mpr ⟨p, hp, e⟩)
theorem putH_new {kvs : HTs} {h : Hd} {T : Ty} (g : h ∉ kvs.map (·.1)) : putH kvs h T = kvs ++ [(h, T)] := by
  unfold putH
  rw [if_neg]
  intro z
  obtain ⟨p, hp, e⟩ := List.any_eq_true.mp z
  exact g (List.mem_map.mpr ⟨p, hp, of_decide_eq_true e⟩)
/-- some set of heads -/
def OwnS (Pk : List Hd → Prop) : Ow := ⟨fun H a u => ∃ ks, Pk ks ∧ (OwnD (setD ks)).p H a u, fun e ⟨ks, h, g⟩ => ⟨ks, h, Ow.mono _ e g⟩, fun ⟨ks, h, g⟩ => Ow.nt _ g⟩
def DcS (Pk : List Hd → Prop) : Ty := ⟨fun H v => ∃ ks, Pk ks ∧ (DcT (setD ks)).p H v, fun e ⟨ks, h, g⟩ => ⟨ks, h, Ty.mono _ e g⟩⟩
theorem ownS_fix {Pk : List Hd → Prop} (Hs : Hp) (p : Addr) (u : HO) (hp : Hs p = none) (h : (OwnS Pk).p Hs p u) : (DcS Pk).p (upd Hs p u) (.ref p) := by
  obtain ⟨ks, h1, h2⟩ := h
  exact ⟨ks, h1, ownD_fix Hs p u hp h2⟩
section
variable {X : Cx} {ρ : List Sl} {e ke de : Expr} {h : Hd} {pos : Pos} {rest : List Stmt} {E : En} {k : Nat} {Pk : List Hd → Prop} {b : Bool}
theorem in_runS (hke : EE X ρ ke (D (hdD h))) (hde : EE X ρ de (DcS Pk)) (hb : ∀ ks, Pk ks → decide (h ∈ ks) = b) {F Hs H : Hp} {σ : L2.St} {Q : VK} (E : ER ρ F Hs H σ) (q : ∀ Hs' H', Ext Hs H Hs' H' → Q (.bl b) H') : tDIn (RE X ke) (RE X de) σ H Q := by
  refine hke F Hs H σ _ E fun kv Hs1 H1 X1 hkv => ?_
  refine hde F Hs1 H1 σ _ (E.ext X1) fun v Hs2 H2 X2 hv => ?_
  obtain ⟨ks, hp0, a, xs, rfl, ha, hp⟩ := hv
  obtain ⟨b', rfl, hb'⟩ := dq_hd hkv
  refine ⟨a, _, rfl, dget_of (X2.b _ _ ha) (X2.b _ _ (X2.a _ _ hb')), ?_⟩
  rw [dcp_some hp, getH_set, hb ks hp0]
  exact q _ _ (X1.trans X2)
theorem t_inS (hr : Room k X.A) (hke : EE X ρ ke (D (hdD h))) (hde : EE X ρ de (DcS Pk)) (hb : ∀ ks, Pk ks → decide (h ∈ ks) = b) (hm : behindInMarks .In de = false := by rfl) : ET X ρ (.Compare ke [.In] [de] pos) b := fun F Hs H σ Q E q =>
  RT.of (pt_cmp (pc_din (room1 hr) pe_RE pe_RE) hm) (in_runS hke hde hb E fun Hs' H' x => ⟨_, rfl, q _ _ x⟩)
theorem e_inS' (hr : Room k X.A) (hke : EE X ρ ke (D (hdD h))) (hde : EE X ρ de (DcS Pk)) (hb : ∀ ks, Pk ks → decide (h ∈ ks) = b) (hm : behindInMarks .In de = false := by rfl) : EE X ρ (.Compare ke [.In] [de] pos) (D (.bool b)) := fun F Hs H σ Q E q =>
  RE.of (pe_cmp (pc_din (room1 hr) pe_RE pe_RE) hm) (in_runS hke hde hb E fun Hs' H' x => q _ _ _ x (.bl _))
end
/-! instances -/
def RulesT (C : Addr) (rs : Rl) : Ty := ⟨fun H v => ∃ a dx l xs, v = .ref a ∧ H a = some (.ins C dx [("kept", .ref l)]) ∧ H l = some (.lst xs) ∧ DqAll H xs (rs.map ruleD), fun e ⟨a, dx, l, xs, h1, h2, h3, h4⟩ => ⟨a, dx, l, xs, h1, e _ _ h2, e _ _ h3, dqs_mono e _ _ h4⟩⟩
abbrev Ch := List (Hd × Int)
def chD (ch : Ch) : HTs := ch.map fun p => (p.1, D (.int p.2))
def CallsT (C : Addr) (ch : Ch) : Ty := ⟨fun H v => ∃ a dx d xs, v = .ref a ∧ H a = some (.ins C dx [("place_of", .ref d)]) ∧ H d = some (.dT xs) ∧ DcP H (chD ch) xs, fun e ⟨a, dx, l, xs, h1, h2, h3, h4⟩ => ⟨a, dx, l, xs, h1, e _ _ h2, e _ _ h3, DcP.mono e h4⟩⟩
end DL

set_option Elab.async false
set_option linter.all false
set_option maxRecDepth 100000
set_option maxHeartbeats 4000000
namespace K53
open PySem PySem.Spec PyProof.Rows L2 DL Q
section
variable {P : Program} {w : World} {K : PySem.W.Frag} {mg : Str → Option Value} {base : Heap} {f : Addr} {fd : FuncData} {aR aC : Addr}
/-! Rules.told -/
def S_rtold (aR : Addr) : List Ty → Ty → Prop := fun Ts T => ∃ rs : Rl, Ts = [RulesT aR rs] ∧ T = D (.list (rs.map ruleD))
theorem sc_rtold : FnScope ["self"] ["self"] (defScope sRulesTold) := ⟨rfl, rfl, rfl, by decide +kernel, rfl, by decide +kernel, by decide +kernel⟩
theorem ok_rtold (B : Bi mg) (cR : Cls K aR) (nR : NoAttr K aR "kept") (F : FnP K "told" "Rules.told" sRulesTold f fd) : FnOk P w K mg base CX0 1 f fd ["self"] (spS (S_rtold aR)) := by
  refine fn_ok F sc_rtold (by rintro _ _ ⟨_, rfl, rfl⟩; rfl) ?_
  rintro cdv A outer s H E hr _ _ ⟨rs, rfl, rfl⟩
  refine bb_ret (EO.d (o_list B.list (ee_fld (ee_v 0 rfl) fun H v hv => ?_)))
  obtain ⟨a, dx, l, xs, h1, h2, h3, h4⟩ := hv
  exact ⟨a, aR, dx, _, .ref l, h1, h2, cR, nR, rfl, .lst h3 h4⟩
theorem ins_rules {rs : Rl} : InsOf aR "told" (RulesT aR rs) := fun H v ⟨a, dx, l, xs, h1, h2, _, _⟩ => ⟨a, dx, _, h1, h2, rfl⟩
/-! made_heads -/
def S_made (aR : Addr) : List Ty → Ty → Prop := fun Ts T => ∃ rs : Rl, RlOk rs ∧ Ts = [RulesT aR rs] ∧ T = D (.list ((madeH rs).map hdD))
theorem sc_made : FnScope ["rules", "found", "left", "right"] ["rules"] (defScope sMadeHeads) := ⟨rfl, rfl, rfl, by decide +kernel, rfl, by decide +kernel, by decide +kernel⟩
theorem ok_made (B : Bi mg) (G1 : Fn P w K mg base 2 "head" S_head) (G2 : Me P w K mg base 1 aR "told" (S_rtold aR)) (F : FnP K "made_heads" "made_heads" sMadeHeads f fd) : FnOk P w K mg base CX0 3 f fd ["rules"] (spS (S_made aR)) := by
  refine fn_ok F sc_made (by rintro _ _ ⟨_, _, rfl, rfl⟩; rfl) ?_
  rintro cdv A outer s H E hr _ _ ⟨rs, ok, rfl, rfl⟩
  have h1 : Room 1 _ := hr.mono (by decide)
  have hn := sc_made.nd
  have hln := ok.ln
  refine bb_setO 1 hn rfl (.inl rfl) eo_dnew ?_
  refine bb_for (fun i ρ => ∃ v m : Sl, ρ = [.va (RulesT aR rs), .ow (OwnD (setD (uniqH ((rs.take i).map fun p => hdOf p.1)))), v, m]) PassesOwn.never rfl (it_listD (ee_meth0 G2 h1 (ee_v 0 rfl) ins_rules ⟨rs, rfl, rfl⟩)) ⟨_, _, rfl⟩ ?_ ?_
  · rintro i T ρ' hT ⟨v, m, rfl⟩
    rw [List.getElem?_map, List.getElem?_map] at hT
    cases hi : rs[i]? with
    | none => rw [hi] at hT; cases hT
    | some p =>
      rw [hi] at hT
      rw [← Option.some.inj hT]
      have hok := ok.ok p (List.mem_of_getElem? hi)
      refine ⟨_, _, gg_pair rfl (gg_name 2 hn rfl (.inl rfl)) (gg_name 3 hn rfl (.inl rfl)), ?_⟩
      refine bb_dput (h := hdOf p.1) 1 hr rfl ee_bl (EE.d (ee_call G1 hr (ea_cons (ee_v 2 rfl) ea_nil) ⟨p.1, hok.tl, rfl, rfl⟩) (headD_app hok.al)) ?_ (bb_nil ⟨.va (D p.1), .va (D p.2), ?_⟩)
      · unfold setD
        have := len_uniqH ((rs.take i).map fun p => hdOf p.1)
        rw [List.length_map, List.length_take] at this
        rw [List.length_map]
        omega
      · rw [putH_set, List.take_succ, hi, List.map_append]
        show _ = [_, Sl.ow (OwnD (setD (uniqH (_ ++ [hdOf p.1])))), _, _]
        rw [uniqH_snoc]
        rfl
  · rintro ρ' ⟨v, m, rfl⟩
    rw [List.length_map, List.length_map, List.take_length]
    refine bb_freeze 1 rfl (O := OwnD _) (T := DcT _) ownD_fix (bb_ret (EE.d (EO.d (o_sortedH hr rfl B.sorted (ee_v 1 rfl) ?_)) ?_))
    · unfold setD
      have := len_uniqH (rs.map fun p => hdOf p.1)
      rw [List.length_map] at this
      rw [List.length_map]
      omega
    · rw [setD_keys, sort_heads]
      rfl
/-! sides_of_calls -/
def S_sides (aR : Addr) : List Ty → Ty → Prop := fun Ts T => ∃ rs : Rl, RlOk rs ∧ Ts = [RulesT aR rs] ∧ T = D (.list ((sides rs).map ruleD))
theorem sc_sides : FnScope ["rules", "made", "found", "left", "right", "path", "place"] ["rules"] (defScope sSidesOfCalls) := ⟨rfl, rfl, rfl, by decide +kernel, rfl, by decide +kernel, by decide +kernel⟩
theorem made_shaped {rs : Rl} (ok : RlOk rs) : SeqAt.shaped (.list ((madeH rs).map hdD)) = true := by
  have h1 : PyData.canLayAll0 ((madeH rs).map hdD) = true := canLayAll_mem.mpr fun a ha => by
    obtain ⟨h, hh, rfl⟩ := List.mem_map.mp ha
    obtain ⟨p, hp, rfl⟩ := mem_madeH.mp hh
    exact SeqAt.canLay_of_shaped (shaped_hd ((ok.ok p hp).tl.hdName (ok.ok p hp).al))
  have h2 : PyData.depthAll ((madeH rs).map hdD) ≤ 1 := depthAll_le fun a ha => by
    obtain ⟨h, hh, rfl⟩ := List.mem_map.mp ha
    simp [hdD, PyData.depth, PyData.depthAll]
  unfold SeqAt.shaped
  rw [Bool.and_eq_true]
  refine ⟨by simpa [PyData.canLay0] using h1, decide_eq_true ?_⟩
  rw [PyData.depth]
  omega
theorem made_in {rs : Rl} {q : PyData} (hq : Tm q) : (((madeH rs).map hdD).any fun z => PyData.eqv z (headD q)) = inMade rs q := by
  have hnb : ∀ x ∈ (madeH rs).map hdD, nb x = true := fun x hx => by
    obtain ⟨h, _, rfl⟩ := List.mem_map.mp hx
    exact nb_hd h
  rw [Bool.eq_iff_iff]
  unfold inMade
  rcases hq.cases_ with ⟨n, rfl, _, _⟩ | ⟨s, as, rfl, _⟩
  · rw [any_eqv hnb rfl]
    constructor
    · intro h
      obtain ⟨h, _, e⟩ := List.mem_map.mp h
      cases e
    · intro h
      cases h
  · have e : headD (.tuple (.str s :: as)) = hdD (hdOf (.tuple (.str s :: as))) := headD_app rfl
    rw [e, any_eqv hnb (nb_hd _), Bool.and_eq_true, decide_eq_true_eq, List.mem_map]
    constructor
    · rintro ⟨h, hh, e⟩
      rw [hdD_inj e] at hh
      exact ⟨rfl, hh⟩
    · rintro ⟨_, h⟩
      exact ⟨_, h, rfl⟩
theorem headD_shaped {q : PyData} (hq : Tm q) : SeqAt.shaped (headD q) = true := by
  rcases hq.cases_ with ⟨n, rfl, _, _⟩ | ⟨s, as, rfl, hs, _⟩
  · rfl
  · rw [headD_app (d := .tuple (.str s :: as)) rfl]
    exact shaped_hd hs
def sideF (rs : Rl) (l : PyData) : PyData → Option PyData
  | .tuple [_, q] => if inMade rs q then some (.tuple [l, q]) else none
  | _ => none
theorem side_list (rs : Rl) (p : PyData × PyData) : ((pf [] p.2).map pthD).filterMap (sideF rs p.1) = (sideOf rs p).map ruleD := by
  unfold sideOf
  rw [← pf_parts [] p.2]
  generalize pf [] p.2 = xs
  induction xs with
  | nil => rfl
  | cons x xs ih =>
    rw [List.map_cons, List.map_cons, List.filterMap_cons]
    rw [show sideF rs p.1 (pthD x) = if inMade rs x.2 then some (ruleD (p.1, x.2)) else none from rfl]
    by_cases e : inMade rs x.2 = true
    · rw [if_pos e, List.filter_cons_of_pos e, List.map_cons, List.map_cons, ← ih]
    · rw [if_neg e, List.filter_cons_of_neg e, ← ih]
theorem len_side (rs : Rl) (p : PyData × PyData) : (sideOf rs p).length ≤ cnt p.2 := by
  unfold sideOf
  rw [List.length_map, ← parts_len]
  exact List.length_filter_le _ _
theorem len_sides {rs cs : Rl} (h : ∀ p ∈ cs, cnt p.2 ≤ 1000) : (cs.flatMap (sideOf rs)).length ≤ cs.length * 1000 := by
  induction cs with
  | nil => simp
  | cons p cs ih =>
    rw [List.flatMap_cons, List.length_append, List.length_cons]
    have h1 := len_side rs p
    have h2 := h p List.mem_cons_self
    have h3 := ih fun q hq => h q (List.mem_cons_of_mem _ hq)
    omega
theorem ok_sides (B : Bi mg) (G1 : Fn P w K mg base 2 "head" S_head) (G2 : Me P w K mg base 1 aR "told" (S_rtold aR)) (G3 : Fn P w K mg base 3 "made_heads" (S_made aR)) (G4 : Fn P w K mg base 10 "parts_of" S_parts)
    (F : FnP K "sides_of_calls" "sides_of_calls" sSidesOfCalls f fd) : FnOk P w K mg base CX0 11 f fd ["rules"] (spS (S_sides aR)) := by
  refine fn_ok F sc_sides (by rintro _ _ ⟨_, _, rfl, rfl⟩; rfl) ?_
  rintro cdv A outer s H E hr _ _ ⟨rs, ok, rfl, rfl⟩
  have h1 : Room 1 _ := hr.mono (by decide)
  have h2 : Room 2 _ := hr.mono (by decide)
  have h3 : Room 3 _ := hr.mono (by decide)
  have hn := sc_sides.nd
  have hln := ok.ln
  refine bb_set 1 hn rfl (.inr rfl) (ee_call G3 h3 (ea_cons (ee_v 0 rfl) ea_nil) ⟨rs, ok, rfl, rfl⟩) ?_
  refine bb_setO 2 hn rfl (.inl rfl) (eo_lst ead_nil) ?_
  refine bb_for (fun i ρ => ∃ v m p q : Sl, ρ = [.va (RulesT aR rs), .va (D (.list ((madeH rs).map hdD))), .ow (OwnL (((rs.take i).flatMap (sideOf rs)).map ruleD)), v, m, p, q]) PassesOwn.never rfl (it_listD (ee_meth0 G2 h1 (ee_v 0 rfl) ins_rules ⟨rs, rfl, rfl⟩)) ⟨_, _, _, _, rfl⟩ ?_ ?_
  · rintro i T ρ' hT ⟨v, m, p0, q0, rfl⟩
    rw [List.getElem?_map, List.getElem?_map] at hT
    cases hi : rs[i]? with
    | none => rw [hi] at hT; cases hT
    | some p =>
      rw [hi] at hT
      rw [← Option.some.inj hT]
      have hok := ok.ok p (List.mem_of_getElem? hi)
      have hpl := pf_len [] p.2
      have hcr := hok.cr
      have htl : (rs.take i).length ≤ 40 := by rw [List.length_take]; omega
      have hls := len_sides (rs := rs) (cs := rs.take i) fun q hq => (ok.ok q (List.mem_of_mem_take hq)).cr
      refine ⟨_, _, gg_pair rfl (gg_name 3 hn rfl (.inr rfl)) (gg_name 4 hn rfl (.inl rfl)), ?_⟩
      refine bb_extend (es := ((pf [] p.2).map pthD).filterMap (sideF rs p.1)) 2 rfl ?_ (EO.d (o_lcIf (own := [("path", 5), ("place", 6)]) ((pf [] p.2).map pthD) (sideF rs p.1) rfl hn (it_listD (ee_call G4 hr (ea_cons (ee_v 4 rfl) ea_nil) ⟨p.2, hok.tr, hok.lr, hok.cr, rfl, rfl⟩)) (blkOk_by (N := ["rules", "made", "found", "left", "right", "path", "place"]) (sc := defScope sSidesOfCalls) (by decide +kernel)) ?_ ?_)) ?_
      · rw [side_list, List.length_map, List.length_map]
        have := len_side rs p
        omega
      · rw [List.length_map]
        omega
      · intro d hd
        obtain ⟨x, hx, rfl⟩ := List.mem_map.mp hd
        have hxt : Tm x.2 := (hok.tr.parts (by rw [← pf_parts [] p.2]; exact List.mem_map.mpr ⟨x, hx, rfl⟩)).1
        refine turn_if (q := inMade rs x.2) (fun s H C cl fp => gg_pair (d1 := .tuple x.1) (d2 := x.2) rfl (gg_name 5 hn rfl (.inl rfl)) (gg_name 6 hn rfl (.inl rfl))) (fun s H C cl fp => ?_) (fun e => ?_) (fun e => ⟨.tuple [p.1, x.2], ?_, fun s H C cl fp => ?_⟩)
        · exact ET.to (t_inD h1 (ee_call G1 h2 (ea_cons (ee_v 6 rfl) ea_nil) ⟨x.2, hxt, rfl, rfl⟩) (ee_v 1 rfl) (headD_shaped hxt) (made_shaped ok)) (made_in hxt)
        · show (if inMade rs x.2 then _ else _) = _
          rw [e]
          rfl
        · show (if inMade rs x.2 then _ else _) = _
          rw [e]
          rfl
        · exact ee_tup (ead_cons (ee_v 3 rfl) (ead_cons (ee_v 6 rfl) ead_nil))
      · refine bb_nil ⟨.va (D p.1), .va (D p.2), p0, q0, ?_⟩
        rw [side_list, List.take_succ, hi, List.flatMap_append, List.map_append]
        show _ = [_, _, Sl.ow (OwnL (_ ++ ([p].flatMap (sideOf rs)).map ruleD)), _, _, _, _]
        rw [List.flatMap_cons, List.flatMap_nil, List.append_nil]
        rfl
  · rintro ρ' ⟨v, m, p0, q0, rfl⟩
    rw [List.length_map, List.length_map, List.take_length]
    exact bb_fixL 2 rfl (bb_ret (ee_v 2 rfl))
end
end K53

set_option Elab.async false
set_option linter.all false
set_option maxRecDepth 100000
set_option maxHeartbeats 4000000
namespace DL
open PySem PySem.Spec PyProof.Rows L2
theorem bb_weakO {X : Cx} {ρ : List Sl} {rest : List Stmt} {E : En} {O O' : Ow} (i : Nat) (hi : ρ[i]? = some (.ow O)) (l : ∀ H a u, O.p H a u → O'.p H a u) (h : BB X (ρ.set i (.ow O')) rest E) : BB X ρ rest E := fun W F Hs H σ D tk ER1 g => by
  obtain ⟨p, u, h1, h2, h3, h4, h5⟩ := ER1.o i O hi
  have E' := ER1.mut hi h1 (O' := O') (l _ _ _ h5)
  have e : upd H p u = H := by
    funext a
    unfold upd
    split
    · rename_i z
      rw [z, h4]
    · rfl
  rw [e] at E'
  exact h W F Hs H σ D tk E' g
end DL
namespace Q
open PySem DL
theorem nodup_le {α : Type} [DecidableEq α] : ∀ {xs ys : List α}, xs.Nodup → (∀ x ∈ xs, x ∈ ys) → xs.length ≤ ys.length
  | [], ys, _, _ => Nat.zero_le _
  | x :: xs, ys, n, h => by
    rw [List.nodup_cons] at n
    have hx := h x List.mem_cons_self
    have := nodup_le (xs := xs) (ys := ys.erase x) n.2 fun y hy => by
      have hne : y ≠ x := fun e => n.1 (by rw [← e]; exact hy)
      exact (List.mem_erase_of_ne hne).mpr (h y (List.mem_cons_of_mem _ hy))
    rw [List.length_erase_of_mem hx] at this
    have : 0 < ys.length := List.length_pos_of_mem hx
    rw [List.length_cons]
    omega
structure Bfs (ws : List HdP) (b : Hd) (ks wt : List Hd) : Prop where
  snd : ∀ h ∈ ks, Rch ws b h
  wtk : ∀ h ∈ wt, h = b ∨ h ∈ ks
  cls : ∀ h, (h = b ∨ h ∈ ks) → h ∉ wt → ∀ c, (h, c) ∈ ws → c ∈ ks
  nd : ks.Nodup
  sub : ∀ h ∈ ks, h ∈ ws.map (·.2)
structure Bfs1 (ws : List HdP) (b one : Hd) (i : Nat) (ks wt : List Hd) : Prop where
  snd : ∀ h ∈ ks, Rch ws b h
  wtk : ∀ h ∈ wt, h = b ∨ h ∈ ks
  on : one = b ∨ one ∈ ks
  cls : ∀ h, (h = b ∨ h ∈ ks) → h ∉ wt → h ≠ one → ∀ c, (h, c) ∈ ws → c ∈ ks
  dn : ∀ j, j < i → ∀ c, ws[j]? = some (one, c) → c ∈ ks
  nd : ks.Nodup
  sub : ∀ h ∈ ks, h ∈ ws.map (·.2)
section
variable {ws : List HdP} {b one last : Hd} {ks wt : List Hd} {i : Nat}
theorem Bfs.init : Bfs ws b [] [b] where
  snd := fun _ h => nomatch h
  wtk := fun h hh => .inl (List.mem_singleton.mp hh)
  cls := fun h hh hn c hc => by
    rcases hh with rfl | hh
    · exact absurd List.mem_cons_self hn
    · exact nomatch hh
  nd := List.nodup_nil
  sub := fun _ h => nomatch h
theorem Bfs.pop (h : Bfs ws b ks (wt ++ [one])) : Bfs1 ws b one 0 ks wt :=
  ⟨h.snd, fun x hx => h.wtk x (List.mem_append_left _ hx), h.wtk one (List.mem_append_right _ List.mem_cons_self), fun x hx hn hne => h.cls x hx fun z => by
    rcases List.mem_append.mp z with z | z
    · exact hn z
    · exact hne (List.mem_singleton.mp z), fun j hj => absurd hj (Nat.not_lt_zero _), h.nd, h.sub⟩
theorem Bfs1.add (h : Bfs1 ws b one i ks wt) (hi : ws[i]? = some (one, last)) (hn : last ∉ ks) : Bfs1 ws b one (i + 1) (ks ++ [last]) (wt ++ [last]) := by
  have hm := List.mem_of_getElem? hi
  refine ⟨fun x hx => ?_, fun x hx => ?_, ?_, fun x hx hnw hne c hc => ?_, fun j hj c hc => ?_, ?_, fun x hx => ?_⟩
  · rcases List.mem_append.mp hx with z | z
    · exact h.snd x z
    · rw [List.mem_singleton.mp z]
      rcases h.on with e | e
      · rw [e] at hm
        exact .one hm
      · exact .more (h.snd _ e) hm
  · rcases List.mem_append.mp hx with z | z
    · exact (h.wtk x z).imp id fun z => List.mem_append_left _ z
    · exact .inr (List.mem_append_right _ z)
  · exact h.on.imp id fun z => List.mem_append_left _ z
  · have hnl : x ≠ last := fun e => hnw (List.mem_append_right _ (by rw [e]; exact List.mem_cons_self))
    refine List.mem_append_left _ (h.cls x ?_ (fun z => hnw (List.mem_append_left _ z)) hne c hc)
    rcases hx with e | e
    · exact .inl e
    · rcases List.mem_append.mp e with e | e
      · exact .inr e
      · exact absurd (List.mem_singleton.mp e) hnl
  · by_cases e : j = i
    · rw [e, hi] at hc
      cases hc
      exact List.mem_append_right _ List.mem_cons_self
    · exact List.mem_append_left _ (h.dn j (by omega) c hc)
  · exact List.nodup_append.mpr ⟨h.nd, List.nodup_cons.mpr ⟨List.not_mem_nil, List.nodup_nil⟩, fun a ha c hc e => hn (by rw [← List.mem_singleton.mp hc, ← e]; exact ha)⟩
  · rcases List.mem_append.mp hx with z | z
    · exact h.sub x z
    · rw [List.mem_singleton.mp z]
      exact List.mem_map.mpr ⟨_, hm, rfl⟩
theorem Bfs1.skip {p : HdP} (h : Bfs1 ws b one i ks wt) (hi : ws[i]? = some p) (hn : p.1 = one → p.2 ∈ ks) : Bfs1 ws b one (i + 1) ks wt :=
  ⟨h.snd, h.wtk, h.on, h.cls, fun j hj c hc => by
    by_cases e : j = i
    · rw [e, hi] at hc
      cases hc
      exact hn rfl
    · exact h.dn j (by omega) c hc, h.nd, h.sub⟩
theorem Bfs1.done (h : Bfs1 ws b one ws.length ks wt) : Bfs ws b ks wt :=
  ⟨h.snd, h.wtk, fun x hx hn c hc => by
    by_cases e : x = one
    · obtain ⟨j, hj⟩ := List.mem_iff_getElem?.mp hc
      rw [e] at hj
      exact h.dn j (List.getElem?_eq_some_iff.mp hj).1 c hj
    · exact h.cls x hx hn e c hc, h.nd, h.sub⟩
theorem Bfs.fin (h : Bfs ws b ks []) (x : Hd) : x ∈ ks ↔ Rch ws b x := by
  refine ⟨h.snd x, fun r => ?_⟩
  induction r with
  | one e => exact h.cls b (.inl rfl) List.not_mem_nil _ e
  | more r e ih => exact h.cls _ (.inr ih) List.not_mem_nil _ e
theorem Bfs.le (h : Bfs ws b ks wt) : ks.length ≤ ws.length := by
  have := nodup_le h.nd h.sub
  rwa [List.length_map] at this
theorem Bfs1.le (h : Bfs1 ws b one i ks wt) : ks.length ≤ ws.length := by
  have := nodup_le h.nd h.sub
  rwa [List.length_map] at this
end
end Q
namespace K53
open PySem PySem.Spec PyProof.Rows L2 DL Q
section
variable {P : Program} {w : World} {K : PySem.W.Frag} {mg : Str → Option Value} {base : Heap} {f : Addr} {fd : FuncData} {aR aC : Addr}
/-! led_from -/
def WsOk (ws : List HdP) : Prop := (∀ p ∈ ws, NameOk p.1.1 ∧ NameOk p.2.1) ∧ ws.length ≤ 40000
def RchP (ws : List HdP) (b : Hd) : List Hd → Prop := fun ks => ∀ h, h ∈ ks ↔ Rch ws b h
def S_led : List Ty → Ow → Prop := fun Ts O => ∃ (ws : List HdP) (b : Hd), WsOk ws ∧ NameOk b.1 ∧ Ts = [D (.list (ws.map nkD)), D (hdD b)] ∧ O = OwnS (RchP ws b)
theorem sc_led : FnScope ["ways", "begin", "found", "waiting", "one", "first", "last"] ["ways", "begin"] (defScope sLedFrom) := ⟨rfl, rfl, rfl, by decide +kernel, rfl, by decide +kernel, by decide +kernel⟩
theorem eqv_hd (a b : Hd) : PyData.eqv (hdD a) (hdD b) = decide (a = b) := by
  rw [Bool.eq_iff_iff, eqv_nb (nb_hd a) (nb_hd b), decide_eq_true_eq]
  exact ⟨hdD_inj, fun e => by rw [e]⟩
theorem ok_led (B : Bi mg) (F : FnP K "led_from" "led_from" sLedFrom f fd) : FnOk P w K mg base CX0 1 f fd ["ways", "begin"] (spO S_led) := by
  refine fn_okO F sc_led (by rintro _ _ ⟨_, _, _, _, rfl, rfl⟩; rfl) ?_
  rintro cdv A outer s H E hr _ _ ⟨ws, b, wok, hb, rfl, rfl⟩
  have hn := sc_led.nd
  have hwl := wok.2
  refine bb_setO 2 hn rfl (.inl rfl) eo_dnew ?_
  refine bb_setO 3 hn rfl (.inl rfl) (eo_lst (ead_cons (ee_v 1 rfl) ead_nil)) ?_
  refine bb_while (fun m ρ => ∃ (ks wt : List Hd) (s4 s5 s6 : Sl), ρ = [.va (D (.list (ws.map nkD))), .va (D (hdD b)), .ow (OwnD (setD ks)), .ow (OwnL (wt.map hdD)), s4, s5, s6] ∧ Bfs ws b ks wt ∧ NameOk b.1 ∧ m = 2 * (ws.length - ks.length) + wt.length ∧ m ≤ 2 * ws.length + 1) (2 * ws.length + 1) PassesOwn.never ⟨[], [b], _, _, _, rfl, Bfs.init, hb, by simp, by simp⟩ ?_
  rintro m ρ' ⟨ks, wt, s4, s5, s6, rfl, bf, _, hm, hmx⟩
  refine ⟨_, t_gtI (ee_lenO (ds := wt.map hdD) 3 B.len rfl) ee_int, fun e => ?_, fun e => ?_⟩
  · have hwt : wt ≠ [] := fun z => by
      rw [z] at e
      exact nomatch e
    obtain ⟨wt', one, rfl⟩ : ∃ wt' one, wt = wt' ++ [one] := ⟨wt.dropLast, wt.getLast hwt, (List.dropLast_concat_getLast hwt).symm⟩
    have hon : NameOk one.1 := by
      rcases bf.wtk one (List.mem_append_right _ List.mem_cons_self) with z | z
      · rw [z]; exact hb
      · obtain ⟨p, hp, z⟩ := List.mem_map.mp (bf.sub _ z)
        rw [← z]
        exact (wok.1 p hp).2
    refine bb_setPop (ds := wt'.map hdD) (d := hdD one) 3 4 (by rw [List.map_append]; rfl) hn rfl (.inl rfl) ?_
    have hle := bf.le
    rw [List.length_append, List.length_singleton] at hm
    refine bb_for (fun i ρ => ∃ (ks wt : List Hd) (s5 s6 : Sl), ρ = [.va (D (.list (ws.map nkD))), .va (D (hdD b)), .ow (OwnD (setD ks)), .ow (OwnL (wt.map hdD)), .va (D (hdD one)), s5, s6] ∧ Bfs1 ws b one i ks wt ∧ 2 * (ws.length - ks.length) + wt.length < m) PassesOwn.never rfl
      (it_listD (ee_v 0 rfl)) ⟨ks, wt', s5, s6, rfl, bf.pop, by omega⟩ ?_ ?_
    · rintro i T ρ' hT ⟨ks, wt, s5, s6, rfl, bf, hmm⟩
      rw [List.getElem?_map, List.getElem?_map] at hT
      cases hi : ws[i]? with
      | none => rw [hi] at hT; cases hT
      | some p =>
        rw [hi] at hT
        rw [← Option.some.inj hT]
        have hp := wok.1 p (List.mem_of_getElem? hi)
        have hle := bf.le
        refine ⟨_, _, gg_pair rfl (gg_name 5 hn rfl (.inl rfl)) (gg_name 6 hn rfl (.inl rfl)), ?_⟩
        have hcv : (PyData.eqv (hdD p.1) (hdD one) && !(getH (setD ks) p.2).isSome) = (decide (p.1 = one) && !decide (p.2 ∈ ks)) := by rw [eqv_hd, getH_set]
        by_cases hcd : p.1 = one ∧ p.2 ∉ ks
        · refine bb_if0 (b := true) (ET.to (EW.t (ew_and (t_eqD hr (ee_v 5 rfl) (ee_v 4 rfl) (shaped_hd hp.1) (shaped_hd hon)) fun _ => ew_and1 (t_notinO 2 hr rfl (ee_v 6 rfl)))) ?_) (fun _ => ?_) (fun z => nomatch z)
          · rw [hcv, decide_eq_true hcd.1, decide_eq_false hcd.2]
            rfl
          · refine bb_dput (h := p.2) 2 hr rfl ee_bl (ee_v 6 rfl) ?_ ?_
            · unfold setD
              rw [List.length_map]
              omega
            · refine bb_append 3 rfl ?_ (ee_v 6 rfl) (bb_nil (bb_nil ⟨ks ++ [p.2], wt ++ [p.2], .va (D (hdD p.1)), .va (D (hdD p.2)), ?_, bf.add (last := p.2) (by rw [hi, ← hcd.1]) hcd.2, ?_⟩))
              · rw [List.length_map]
                omega
              · rw [putH_set, List.map_append]
                show [_, _, Sl.ow (OwnD (setD (addK ks p.2))), _, _, _, _] = _
                unfold addK
                rw [if_neg hcd.2]
                rfl
              · have hle2 := (bf.add (last := p.2) (by rw [hi, ← hcd.1]) hcd.2).le
                rw [List.length_append, List.length_singleton] at hle2
                rw [List.length_append, List.length_append, List.length_singleton]
                omega
        · refine bb_skip (ET.to (EW.t (ew_and (t_eqD hr (ee_v 5 rfl) (ee_v 4 rfl) (shaped_hd hp.1) (shaped_hd hon)) fun _ => ew_and1 (t_notinO 2 hr rfl (ee_v 6 rfl)))) ?_) (bb_nil ⟨ks, wt, .va (D (hdD p.1)), .va (D (hdD p.2)), rfl, bf.skip hi fun e => Classical.byContradiction fun z => hcd ⟨e, z⟩, hmm⟩)
          rw [hcv]
          cases h1 : decide (p.1 = one) with
          | false => rfl
          | true =>
            cases h2 : decide (p.2 ∈ ks) with
            | true => rfl
            | false => exact absurd ⟨of_decide_eq_true h1, of_decide_eq_false h2⟩ hcd
    · rintro ρ' ⟨ks, wt, s5, s6, rfl, bf, hmm⟩
      rw [List.length_map, List.length_map] at bf
      exact bb_nil ⟨_, hmm, ks, wt, _, _, _, rfl, bf.done, hb, rfl, by omega⟩
  · have hwt : wt = [] := by
      rw [List.length_map] at e
      have e' := of_decide_eq_false e
      exact List.length_eq_zero_iff.mp (by omega)
    subst hwt
    exact bb_weakO (O := OwnD (setD ks)) (O' := OwnS (RchP ws b)) 2 rfl (fun H a u h => ⟨ks, bf.fin, h⟩) (bb_retO 2 rfl rfl)
end
end K53

set_option Elab.async false
set_option linter.all false
set_option maxRecDepth 100000
set_option maxHeartbeats 4000000
namespace DL
open PySem PySem.Spec PyProof.Rows L2
theorem bb_setLcO {X : Cx} {ρ : List Sl} {rest : List Stmt} {E : En} {x : Str} {pos pos' : Pos} (i : Nat) {elt tg it : Expr} {ifs : List Expr} {scope : Scope} (own : List (Str × Nat)) {Ts : List Ty} (os : List (Option PyData)) (ds : List PyData) {lpos : Pos} (hc : X.calm = true) (hN : X.N.Nodup) (hi : X.N[i]? = some x) (hyl : X.env.scope.names.lookup x = some .local)
    (hit : IT X ρ tg it Ts) (ok : BlkOk X.N X.env.scope scope own) (hl : os.length = Ts.length) (hz : Ts.length ≤ 100000) (hds : os.filterMap _root_.id = ds) (hil : i < ρ.length)
    (step : ∀ (i : Nat) (T : Ty) (o : Option PyData), Ts[i]? = some T → os[i]? = some o → Turn1 X ρ scope tg elt ifs (own.map (·.2)) T o) (h : BB X (ρ.set i (.va (D (.list ds)))) rest E)
    (hsw : swapsWith (.ListComp elt [⟨tg, it, ifs, 0⟩] scope lpos) (some (.Name x pos')) pos.line X.env = pure true := by rfl) (hs : ∀ x, foldedSetIterable it X.env x = pure x := by intro _; rfl) :
    BB X ρ (.Assign [.Name x pos'] (.ListComp elt [⟨tg, it, ifs, 0⟩] scope lpos) pos :: rest) E :=
  bb_setLc i hc hN hi hyl hsw hit ok hl hz step (bb_fixL i (ds := ds) (by rw [List.getElem?_set_self hil, hds]) (by rw [List.set_set]; exact h)) hs
theorem bb_setLcD {X : Cx} {ρ : List Sl} {rest : List Stmt} {E : En} {x : Str} {pos pos' : Pos} (i : Nat) {elt tg it : Expr} {scope : Scope} (own : List (Str × Nat)) {Ts : List Ty} (ds : List PyData) {lpos : Pos} (hc : X.calm = true) (hN : X.N.Nodup) (hi : X.N[i]? = some x) (hyl : X.env.scope.names.lookup x = some .local)
    (hit : IT X ρ tg it Ts) (ok : BlkOk X.N X.env.scope scope own) (hl : ds.length = Ts.length) (hz : Ts.length ≤ 100000) (hil : i < ρ.length)
    (step : ∀ (i : Nat) (T : Ty) (d : PyData), Ts[i]? = some T → ds[i]? = some d → Turn1 X ρ scope tg elt [] (own.map (·.2)) T (some d)) (h : BB X (ρ.set i (.va (D (.list ds)))) rest E)
    (hsw : swapsWith (.ListComp elt [⟨tg, it, [], 0⟩] scope lpos) (some (.Name x pos')) pos.line X.env = pure true := by rfl) (hs : ∀ x, foldedSetIterable it X.env x = pure x := by intro _; rfl) :
    BB X ρ (.Assign [.Name x pos'] (.ListComp elt [⟨tg, it, [], 0⟩] scope lpos) pos :: rest) E :=
  bb_setLcO i own (ds.map some) ds hc hN hi hyl hit ok (by rw [List.length_map]; exact hl) hz (filterMap_some ds) hil (fun j T o h1 h2 => by
    rw [List.getElem?_map] at h2
    cases e : ds[j]? with
    | none => rw [e] at h2; cases h2
    | some d =>
      rw [e] at h2
      rw [← Option.some.inj h2]
      exact step j T d h1 e) h hsw hs
end DL
namespace Q
open PySem DL
theorem mem_sides {rs : Rl} {c : PyData × PyData} : c ∈ sides rs ↔ ∃ p ∈ rs, c.1 = p.1 ∧ c.2 ∈ parts p.2 ∧ inMade rs c.2 = true := by
  unfold sides sideOf
  rw [List.mem_flatMap]
  constructor
  · rintro ⟨p, hp, hc⟩
    obtain ⟨q, hq, rfl⟩ := List.mem_map.mp hc
    obtain ⟨h1, h2⟩ := List.mem_filter.mp hq
    exact ⟨p, hp, rfl, h1, h2⟩
  · rintro ⟨p, hp, e, h1, h2⟩
    refine ⟨p, hp, List.mem_map.mpr ⟨c.2, List.mem_filter.mpr ⟨h1, h2⟩, ?_⟩⟩
    rw [← e]
structure SideOk (rs : Rl) (c : PyData × PyData) : Prop where
  t1 : Tm c.1
  a1 : isApp c.1 = true
  t2 : Tm c.2
  a2 : isApp c.2 = true
  m1 : hdOf c.1 ∈ madeH rs
  m2 : hdOf c.2 ∈ madeH rs
  l1 : lev c.1 ≤ 8
  l2 : lev c.2 ≤ 8
  c1 : cnt c.1 ≤ 1000
  c2 : cnt c.2 ≤ 1000
theorem sideOk {rs : Rl} (ok : RlOk rs) {c : PyData × PyData} (h : c ∈ sides rs) : SideOk rs c := by
  obtain ⟨p, hp, e, h1, h2⟩ := mem_sides.mp h
  have hok := ok.ok p hp
  obtain ⟨q1, q2, q3⟩ := hok.tr.parts h1
  unfold inMade at h2
  rw [Bool.and_eq_true, decide_eq_true_eq] at h2
  have := hok.lr
  have := hok.cr
  refine ⟨by rw [e]; exact hok.tl, by rw [e]; exact hok.al, q1, h2.1, ?_, h2.2, by rw [e]; exact hok.ll, by omega, by rw [e]; exact hok.cl, by omega⟩
  rw [e]
  exact mem_madeH.mpr ⟨p, hp, rfl⟩
theorem nodup_madeH (rs : Rl) : (madeH rs).Nodup := (List.mergeSort_perm _ _).nodup_iff.mpr (nodup_uniqH _)
theorem len_madeH (rs : Rl) : (madeH rs).length ≤ rs.length := by
  unfold madeH
  rw [List.length_mergeSort]
  have := len_uniqH (rs.map fun p => hdOf p.1)
  rwa [List.length_map] at this
theorem name_madeH {rs : Rl} (ok : RlOk rs) {h : Hd} (g : h ∈ madeH rs) : NameOk h.1 := by
  obtain ⟨p, hp, rfl⟩ := mem_madeH.mp g
  exact (ok.ok p hp).tl.hdName (ok.ok p hp).al
theorem head_app2 {d : PyData} (h : isApp d = true) : headD d = hdD (hdOf d) := headD_app h
/-- is t a part of d -/
def isPartB (t d : PyData) : Bool := (parts d).any fun q => PyData.eqv q t
/-! choices -/
def getC (ch : Ch) (h : Hd) : Option Int := (ch.find? fun p => decide (p.1 = h)).map (·.2)
theorem getH_ch (ch : Ch) (h : Hd) : getH (chD ch) h = (getC ch h).map fun p => D (.int p) := by
  unfold getH getC chD
  rw [List.find?_map]
  show (Option.map _ (ch.find? fun p => decide (p.1 = h))).map _ = _
  cases ch.find? fun p => decide (p.1 = h) <;> rfl
theorem getC_some {ch : Ch} {h : Hd} : (getC ch h).isSome = decide (h ∈ ch.map (·.1)) := by
  induction ch with
  | nil => rfl
  | cons p r ih =>
    unfold getC at ih ⊢
    rw [List.find?_cons]
    by_cases e : p.1 = h
    · rw [decide_eq_true e]
      simp [e]
    · rw [decide_eq_false e]
      have e' : ¬ h = p.1 := fun z => e z.symm
      simp only [List.map_cons, List.mem_cons, e', false_or]
      exact ih
def chPair (p : Hd × Int) : PyData := .tuple [hdD p.1, .int p.2]
def chL (ch : Ch) : PyData := .list (ch.map chPair)
def chStep (found : List Ch) (one : Hd) : List Ch := found.flatMap fun c => (List.range one.2.toNat).map fun p => c ++ [(one, ((p : Nat) : Int))]
def choices (hs : List Hd) : List Ch := hs.foldl chStep [[]]
def cprod (hs : List Hd) : Nat := hs.foldl (fun n h => n * h.2.toNat) 1
theorem choices_snoc (hs : List Hd) (h : Hd) : choices (hs ++ [h]) = chStep (choices hs) h := by unfold choices; rw [List.foldl_append]; rfl
theorem cprod_snoc (hs : List Hd) (h : Hd) : cprod (hs ++ [h]) = cprod hs * h.2.toNat := by unfold cprod; rw [List.foldl_append]; rfl
theorem len_chStep (h : Hd) : ∀ found : List Ch, (chStep found h).length = found.length * h.2.toNat
  | [] => by simp [chStep]
  | c :: r => by
    have := len_chStep h r
    unfold chStep at this ⊢
    rw [List.flatMap_cons, List.length_append, List.length_map, List.length_range, this, List.length_cons, Nat.add_mul]
    omega
theorem len_choices_aux : ∀ (hs : List Hd) (found : List Ch), (hs.foldl chStep found).length = hs.foldl (fun n h => n * h.2.toNat) found.length
  | [], _ => rfl
  | h :: hs, found => by
    rw [List.foldl_cons, List.foldl_cons, len_choices_aux hs, len_chStep]
theorem len_choices (hs : List Hd) : (choices hs).length = cprod hs := len_choices_aux hs [[]]
theorem fold_ge : ∀ (hs : List Hd) (n : Nat), (∀ h ∈ hs, 1 ≤ h.2) → n ≤ hs.foldl (fun n h => n * h.2.toNat) n
  | [], _, _ => Nat.le_refl _
  | h :: hs, n, g => by
    rw [List.foldl_cons]
    have h1 := g h List.mem_cons_self
    have h2 := fold_ge hs (n * h.2.toNat) fun x hx => g x (List.mem_cons_of_mem _ hx)
    have h3 : 1 ≤ h.2.toNat := by omega
    exact Nat.le_trans (Nat.le_mul_of_pos_right n h3) h2
theorem cprod_take (hs : List Hd) (i : Nat) (g : ∀ h ∈ hs, 1 ≤ h.2) : cprod (hs.take i) ≤ cprod hs := by
  have e : hs = hs.take i ++ hs.drop i := (List.take_append_drop i hs).symm
  have h := fold_ge (hs.drop i) (cprod (hs.take i)) fun x hx => g x (List.mem_of_mem_drop hx)
  have e2 : cprod hs = (hs.drop i).foldl (fun n h => n * h.2.toNat) (cprod (hs.take i)) := by
    conv => lhs; rw [e]
    unfold cprod
    rw [List.foldl_append]
  rw [e2]
  exact h
theorem len_choice_aux : ∀ (hs : List Hd) (found : List Ch) (n : Nat), (∀ c ∈ found, c.length = n) → ∀ c ∈ hs.foldl chStep found, c.length = n + hs.length
  | [], _, n, h => h
  | x :: hs, found, n, h => fun c hc => by
    rw [List.foldl_cons] at hc
    have := len_choice_aux hs (chStep found x) (n + 1) (fun c' hc' => by
      unfold chStep at hc'
      obtain ⟨c0, h0, hc0⟩ := List.mem_flatMap.mp hc'
      obtain ⟨p, _, rfl⟩ := List.mem_map.mp hc0
      rw [List.length_append, h c0 h0]
      rfl) c hc
    rw [List.length_cons]
    omega
theorem len_choice {hs : List Hd} {c : Ch} (h : c ∈ choices hs) : c.length = hs.length := by
  have := len_choice_aux hs [[]] 0 (fun c hc => by rw [List.mem_singleton.mp hc]; rfl) c h
  omega
end Q
namespace K53
open PySem PySem.Spec PyProof.Rows L2 DL Q
section
variable {P : Program} {w : World} {K : PySem.W.Frag} {mg : Str → Option Value} {base : Heap} {f : Addr} {fd : FuncData} {aR aC : Addr}
/-! leads -/
def S_leads (aR : Addr) : List Ty → Ow → Prop := fun Ts O => ∃ rs : Rl, RlOk rs ∧ Ts = [RulesT aR rs] ∧ O = OwnD ((madeH rs).map fun h => (h, DcS (RchP (waysOf (sides rs)) h)))
theorem sc_leads : FnScope ["rules", "ways", "found", "one", "left", "call"] ["rules"] (defScope sLeads) := ⟨rfl, rfl, rfl, by decide +kernel, rfl, by decide +kernel, by decide +kernel⟩
theorem wsOk {rs : Rl} (ok : RlOk rs) : WsOk (waysOf (sides rs)) := by
  refine ⟨fun p hp => ?_, ?_⟩
  · obtain ⟨c, hc, rfl⟩ := List.mem_map.mp hp
    have h := sideOk ok hc
    exact ⟨name_madeH ok h.m1, name_madeH ok h.m2⟩
  · unfold waysOf
    rw [List.length_map]
    have h1 := len_sides (rs := rs) (cs := rs) fun p hp => (ok.ok p hp).cr
    have h2 := ok.ln
    unfold sides
    omega
theorem ok_leads (B : Bi mg) (G1 : Fn P w K mg base 2 "head" S_head) (G2 : Fn P w K mg base 11 "sides_of_calls" (S_sides aR)) (G3 : Fn P w K mg base 3 "made_heads" (S_made aR)) (G4 : FnO P w K mg base 1 "led_from" S_led)
    (F : FnP K "leads" "leads" sLeads f fd) : FnOk P w K mg base CX0 12 f fd ["rules"] (spO (S_leads aR)) := by
  refine fn_okO F sc_leads (by rintro _ _ ⟨_, _, rfl, rfl⟩; rfl) ?_
  rintro cdv A outer s H E hr _ _ ⟨rs, ok, rfl, rfl⟩
  have h1 : Room 1 _ := hr.mono (by decide)
  have h2 : Room 2 _ := hr.mono (by decide)
  have h3 : Room 3 _ := hr.mono (by decide)
  have hn := sc_leads.nd
  have hln := ok.ln
  have hws := wsOk ok
  have hsl : (sides rs).length ≤ 40000 := by
    have := hws.2
    unfold waysOf at this
    rwa [List.length_map] at this
  refine bb_setLcD 1 [("left", 4), ("call", 5)] ((waysOf (sides rs)).map nkD) rfl hn rfl rfl (it_listD (ee_call G2 hr (ea_cons (ee_v 0 rfl) ea_nil) ⟨rs, ok, rfl, rfl⟩)) (blkOk_by (N := ["rules", "ways", "found", "one", "left", "call"]) (sc := defScope sLeads) (by decide +kernel)) ?_ ?_ (by show 1 < 6; decide) ?_ ?_
  · unfold waysOf
    rw [List.length_map, List.length_map, List.length_map, List.length_map]
  · rw [List.length_map, List.length_map]
    omega
  · intro i T d hT hd
    unfold waysOf at hd
    rw [List.getElem?_map, List.getElem?_map] at hT hd
    cases e : (sides rs)[i]? with
    | none => rw [e] at hT; cases hT
    | some c =>
      rw [e] at hT hd
      rw [← Option.some.inj hT, ← Option.some.inj hd]
      have hc := sideOk ok (List.mem_of_getElem? e)
      refine turn_keep (fun s H C cl fp => gg_pair rfl (gg_name 4 hn rfl (.inl rfl)) (gg_name 5 hn rfl (.inl rfl))) fun s H C cl fp => ?_
      exact ee_tup (ead_cons (EE.d (ee_call G1 h2 (ea_cons (ee_v 4 rfl) ea_nil) ⟨c.1, hc.t1, rfl, rfl⟩) (headD_app hc.a1)) (ead_cons (EE.d (ee_call G1 h2 (ea_cons (ee_v 5 rfl) ea_nil) ⟨c.2, hc.t2, rfl, rfl⟩) (headD_app hc.a2)) ead_nil))
  · refine bb_setO 2 hn rfl (.inl rfl) eo_dnew ?_
    have hlm := len_madeH rs
    refine bb_for (fun i ρ => ∃ v : Sl, ρ = [.va (RulesT aR rs), .va (D (.list ((waysOf (sides rs)).map nkD))), .ow (OwnD (((madeH rs).take i).map fun h => (h, DcS (RchP (waysOf (sides rs)) h)))), v, .un, .un]) PassesOwn.never rfl (it_listD (ee_call G3 h3 (ea_cons (ee_v 0 rfl) ea_nil) ⟨rs, ok, rfl, rfl⟩)) ⟨_, rfl⟩ ?_ ?_
    · rintro i T ρ' hT ⟨v, rfl⟩
      rw [List.getElem?_map, List.getElem?_map] at hT
      cases hi : (madeH rs)[i]? with
      | none => rw [hi] at hT; cases hT
      | some h =>
        rw [hi] at hT
        rw [← Option.some.inj hT]
        have hm := List.mem_of_getElem? hi
        refine ⟨_, _, gg_name 3 hn rfl (.inl rfl), ?_⟩
        refine bb_dput (h := h) (T := DcS (RchP (waysOf (sides rs)) h)) 2 hr rfl (EO.fix (eo_call G4 h1 (ea_cons (ee_v 1 rfl) (ea_cons (ee_v 3 rfl) ea_nil)) ⟨_, h, hws, name_madeH ok hm, rfl, rfl⟩) ownS_fix) (ee_v 3 rfl) ?_ (bb_nil ⟨.va (D (hdD h)), ?_⟩)
        · rw [List.length_map, List.length_take]
          omega
        · have hnm : h ∉ ((madeH rs).take i) := fun z => by
            obtain ⟨j, hj⟩ := List.mem_iff_getElem?.mp z
            rw [List.getElem?_take] at hj
            split at hj
            · have := nodup_inj (nodup_madeH rs) hj hi
              omega
            · cases hj
          rw [putH_new (by rw [List.map_map]; show h ∉ ((madeH rs).take i).map fun x => x; rw [List.map_id']; exact hnm), List.take_succ, hi, List.map_append]
          rfl
    · rintro ρ' ⟨v, rfl⟩
      rw [List.length_map, List.length_map, List.take_length]
      exact bb_retO 2 rfl rfl
/-! is_part -/
def S_ispart : List Ty → Ty → Prop := fun Ts T => ∃ t d : PyData, Tm t ∧ lev t ≤ 8 ∧ Tm d ∧ lev d ≤ 8 ∧ cnt d ≤ 1000 ∧ Ts = [D t, D d] ∧ T = D (.bool (isPartB t d))
theorem sc_ispart : FnScope ["term", "other", "path", "place"] ["term", "other"] (defScope sIsPart) := ⟨rfl, rfl, rfl, by decide +kernel, rfl, by decide +kernel, by decide +kernel⟩
theorem ok_ispart (B : Bi mg) (G : Fn P w K mg base 10 "parts_of" S_parts) (F : FnP K "is_part" "is_part" sIsPart f fd) : FnOk P w K mg base CX0 11 f fd ["term", "other"] (spS S_ispart) := by
  refine fn_ok F sc_ispart (by rintro _ _ ⟨_, _, _, _, _, _, _, rfl, rfl⟩; rfl) ?_
  rintro cdv A outer s H E hr _ _ ⟨t, d, ht, htl, hd, hdl, hdc, rfl, rfl⟩
  have hn := sc_ispart.nd
  have hpl := pf_len [] d
  refine bb_ret (EE.d (e_any (bs := (pf [] d).map fun p => PyData.eqv p.2 t) rfl B.any (EE.d (EO.d (o_lc (own := [("path", 2), ("place", 3)]) ((pf [] d).map fun p => PyData.bool (PyData.eqv p.2 t)) rfl hn (it_listD (ee_call G hr (ea_cons (ee_v 1 rfl) ea_nil) ⟨d, hd, hdl, hdc, rfl, rfl⟩))
    (blkOk_by (N := ["term", "other", "path", "place"]) (sc := defScope sIsPart) (by decide +kernel)) ?_ ?_ ?_)) ?_)) ?_)
  · rw [List.length_map, List.length_map, List.length_map]
  · rw [List.length_map, List.length_map]
    omega
  · intro i T x hT hx
    rw [List.getElem?_map, List.getElem?_map] at hT
    rw [List.getElem?_map] at hx
    cases e : (pf [] d)[i]? with
    | none => rw [e] at hT; cases hT
    | some p =>
      rw [e] at hT hx
      rw [← Option.some.inj hT, ← Option.some.inj hx]
      obtain ⟨q1, q2, q3⟩ := hd.parts (p := p.2) (by rw [← pf_parts [] d]; exact List.mem_map.mpr ⟨p, List.mem_of_getElem? e, rfl⟩)
      refine turn_keep (fun s H C cl fp => gg_pair rfl (gg_name 2 hn rfl (.inl rfl)) (gg_name 3 hn rfl (.inl rfl))) fun s H C cl fp => ?_
      exact e_eqD hr (ee_v 3 rfl) (ee_v 0 rfl) (q1.shaped (by omega)) (ht.shaped (by omega))
  · rw [List.map_map]
    rfl
  · rw [List.any_map]
    unfold isPartB
    rw [← pf_parts [] d, List.any_map]
    rfl
/-! is_choice -/
structure ChOk (p : Hd × Int) : Prop where
  nm : NameOk p.1.1
  h0 : 0 ≤ p.1.2
  h9 : p.1.2 ≤ 9
  p0 : 0 ≤ p.2
  pl : p.2 < p.1.2
def S_ischoice : List Ty → Ty → Prop := fun Ts T => ∃ p : Hd × Int, ChOk p ∧ Ts = [D (chPair p)] ∧ T = D (.bool true)
theorem sc_ischoice : FnScope ["thing"] ["thing"] (defScope sIsChoice) := ⟨rfl, rfl, rfl, by decide +kernel, rfl, by decide +kernel, by decide +kernel⟩
theorem ok_ischoice (B : Bi mg) (G1 : Fn P w K mg base 1 "is_whole" S_whole) (G2 : Fn P w K mg base 2 "is_head" S_ishead) (F : FnP K "is_choice" "is_choice" sIsChoice f fd) : FnOk P w K mg base CX0 3 f fd ["thing"] (spS S_ischoice) := by
  refine fn_ok F sc_ischoice (by rintro _ _ ⟨_, _, rfl, rfl⟩; rfl) ?_
  rintro cdv A outer s H E hr _ _ ⟨⟨⟨x, n⟩, p⟩, ok, rfl, rfl⟩
  have h1 : Room 1 _ := hr.mono (by decide)
  refine bb_skip (ET.to (EW.t (ew_or (et_not (et_val (e_isi B.isinstance (ee_v 0 rfl) (ee_bty B.tuple boot_tuple) (kit_tup _)))) fun _ => ew_or (t_neI (e_lenT B.len (ee_v 0 rfl)) ee_int) fun _ =>
    ew_or (et_not (et_val (ee_call G2 hr (ea_cons (e_ixT (ee_v 0 rfl) ee_int (at_ 0 rfl rfl)) ea_nil) ⟨x, n, ok.nm, ok.h0, ok.h9, rfl, rfl⟩))) fun _ => ew_or1 (et_not (et_val (ee_call G1 h1 (ea_cons (e_ixT (ee_v 0 rfl) ee_int (at_ 1 rfl rfl)) ea_nil) ⟨.int p, rfl, rfl⟩))))) rfl) ?_
  refine bb_ret (EE.d (ee_chain op_le op_lt ee_int (e_ixT (ee_v 0 rfl) ee_int (at_ 1 rfl rfl)) (e_ixT (e_ixT (ee_v 0 rfl) ee_int (at_ 0 rfl rfl)) ee_int (at_ 1 rfl rfl)) r2_bool fun _ => r2_bool) ?_)
  rw [decide_eq_true ok.p0, decide_eq_true ok.pl]
  rfl
/-! Calls.told, has_place, stands -/
def S_ctold (aC : Addr) : List Ty → Ty → Prop := fun Ts T => ∃ ch : Ch, Ts = [CallsT aC ch] ∧ T = D (chL ch)
theorem ee_place {X : Cx} {ρ : List Sl} {o : Expr} {pos : Pos} {ch : Ch} (cC : Cls X.K aC) (nC : NoAttr X.K aC "place_of") (ho : EE X ρ o (CallsT aC ch)) (hb : attributeBase o "place_of" X.env (eval o X.env) = eval o X.env := by rfl) : EE X ρ (.Attribute o "place_of" pos) (DcT (chD ch)) :=
  ee_fld ho (fun H v ⟨a, dx, d, xs, h1, h2, h3, h4⟩ => ⟨a, aC, dx, _, .ref d, h1, h2, cC, nC, rfl, d, xs, rfl, h3, h4⟩) hb
theorem sc_ctold : FnScope ["self"] ["self"] (defScope sCallsTold) := ⟨rfl, rfl, rfl, by decide +kernel, rfl, by decide +kernel, by decide +kernel⟩
theorem ok_ctold (B : Bi mg) (cC : Cls K aC) (nC : NoAttr K aC "place_of") (F : FnP K "told" "Calls.told" sCallsTold f fd) : FnOk P w K mg base CX0 1 f fd ["self"] (spS (S_ctold aC)) := by
  refine fn_ok F sc_ctold (by rintro _ _ ⟨_, rfl, rfl⟩; rfl) ?_
  rintro cdv A outer s H E hr _ _ ⟨ch, rfl, rfl⟩
  have e : chD ch = (ch.map fun p => (p.1, PyData.int p.2)).map fun p => (p.1, D p.2) := by
    unfold chD
    rw [List.map_map]
    rfl
  refine bb_ret (EE.d (EO.d (o_listItems (ks := ch.map fun p => (p.1, PyData.int p.2)) rfl B.list (EE.ty (ee_place cC nC (ee_v 0 rfl)) (by rw [e])))) ?_)
  unfold itemsD chL
  rw [List.map_map]
  rfl
def S_hasp (aC : Addr) : List Ty → Ty → Prop := fun Ts T => ∃ (ch : Ch) (t : PyData), Tm t ∧ isApp t = true ∧ Ts = [CallsT aC ch, D t] ∧ T = D (.bool (getC ch (hdOf t)).isSome)
theorem sc_hasp : FnScope ["self", "term"] ["self", "term"] (defScope sCallsHasPlace) := ⟨rfl, rfl, rfl, by decide +kernel, rfl, by decide +kernel, by decide +kernel⟩
theorem ok_hasp (cC : Cls K aC) (nC : NoAttr K aC "place_of") (G : Fn P w K mg base 2 "head" S_head) (F : FnP K "has_place" "Calls.has_place" sCallsHasPlace f fd) : FnOk P w K mg base CX0 3 f fd ["self", "term"] (spS (S_hasp aC)) := by
  refine fn_ok F sc_hasp (by rintro _ _ ⟨_, _, _, _, rfl, rfl⟩; rfl) ?_
  rintro cdv A outer s H E hr _ _ ⟨ch, t, ht, ha, rfl, rfl⟩
  refine bb_ret (EE.d (e_inH hr (EE.d (ee_call G hr (ea_cons (ee_v 1 rfl) ea_nil) ⟨t, ht, rfl, rfl⟩) (headD_app ha)) (ee_place cC nC (ee_v 0 rfl))) ?_)
  rw [getH_ch, Option.isSome_map]
def S_stands (aC : Addr) : List Ty → Ty → Prop := fun Ts T => ∃ (ch : Ch) (s : Str) (as : List PyData) (p : Nat) (d : PyData), Tm (.tuple (.str s :: as)) ∧ getC ch (s, as.length) = some ((p : Nat) : Int) ∧ as[p]? = some d ∧ Ts = [CallsT aC ch, D (.tuple (.str s :: as))] ∧ T = D d
theorem sc_stands : FnScope ["self", "term"] ["self", "term"] (defScope sCallsStands) := ⟨rfl, rfl, rfl, by decide +kernel, rfl, by decide +kernel, by decide +kernel⟩
theorem ok_stands (cC : Cls K aC) (nC : NoAttr K aC "place_of") (G : Fn P w K mg base 2 "head" S_head) (F : FnP K "stands" "Calls.stands" sCallsStands f fd) : FnOk P w K mg base CX0 3 f fd ["self", "term"] (spS (S_stands aC)) := by
  refine fn_ok F sc_stands (by rintro _ _ ⟨_, _, _, _, _, _, _, _, rfl, rfl⟩; rfl) ?_
  rintro cdv A outer s H E hr _ _ ⟨ch, x, as, p, d, ht, hc, hd, rfl, rfl⟩
  have hg : getH (chD ch) (x, ((as.length : Nat) : Int)) = some (D (.int ((p : Nat) : Int))) := by
    rw [getH_ch, hc]
    rfl
  refine bb_ret (e_ixT (ee_v 1 rfl) (e_add ee_int (e_getH hr (ee_place cC nC (ee_v 0 rfl)) (EE.d (ee_call G hr (ea_cons (ee_v 1 rfl) ea_nil) ⟨_, ht, rfl, rfl⟩) (headD_app rfl)) hg)) (at_ (p + 1) (by omega) hd))
end
end K53

set_option Elab.async false
set_option linter.all false
set_option maxRecDepth 100000
set_option maxHeartbeats 4000000
namespace K53
open PySem PySem.Spec PyProof.Rows L2 DL Q
section
variable {P : Program} {w : World} {K : PySem.W.Frag} {mg : Str → Option Value} {base : Heap} {f : Addr} {fd : FuncData} {aR aC : Addr}
/-! choices: the module's and the law's -/
def S_choices : List Ty → Ty → Prop := fun Ts T => ∃ hs : List Hd, (∀ h ∈ hs, 1 ≤ h.2 ∧ h.2 ≤ 1000) ∧ cprod hs ≤ 3000 ∧ hs.length ≤ 60 ∧ Ts = [D (.list (hs.map hdD))] ∧ T = D (.list ((choices hs).map chL))
/-! choices_of -/
theorem sc_choices : FnScope ["heads", "found", "one", "longer", "chosen", "place"] ["heads"] (defScope sChoicesOf) := ⟨rfl, rfl, rfl, by decide +kernel, rfl, by decide +kernel, by decide +kernel⟩
theorem ok_choices (B : Bi mg) (F : FnP K "choices_of" "choices_of" sChoicesOf f fd) : FnOk P w K mg base CX0 1 f fd ["heads"] (spS S_choices) := by
  refine fn_ok F sc_choices (by rintro _ _ ⟨_, _, _, _, rfl, rfl⟩; rfl) ?_
  rintro cdv A outer s H E hr _ _ ⟨hs, hc, hp, hl, rfl, rfl⟩
  have hn := sc_choices.nd
  refine bb_set 1 hn rfl (.inl rfl) (ee_lst (ead_cons (ee_lst ead_nil) ead_nil)) ?_
  refine bb_for (fun i ρ => ∃ a b c d : Sl, ρ = [.va (D (.list (hs.map hdD))), .va (D (.list ((choices (hs.take i)).map chL))), a, b, c, d]) PassesOwn.never rfl (it_listD (ee_v 0 rfl)) ⟨_, _, _, _, rfl⟩ ?_ ?_
  · rintro i T ρ' hT ⟨a, b, c, d, rfl⟩
    rw [List.getElem?_map, List.getElem?_map] at hT
    cases hi : hs[i]? with
    | none => rw [hi] at hT; cases hT
    | some h =>
      rw [hi] at hT
      rw [← Option.some.inj hT]
      have hh := hc h (List.mem_of_getElem? hi)
      have hil : i < hs.length := (List.getElem?_eq_some_iff.mp hi).1
      have hc1 : ∀ x ∈ hs, 1 ≤ x.2 := fun x hx => (hc x hx).1
      have hk := cprod_take hs i hc1
      have hk1 := cprod_take hs (i + 1) hc1
      have htk : hs.take (i + 1) = hs.take i ++ [h] := by rw [List.take_succ, hi]; rfl
      refine ⟨_, _, gg_name 2 hn rfl (.inr rfl), ?_⟩
      refine bb_setO 3 hn rfl (.inl rfl) (eo_lst ead_nil) ?_
      refine bb_for (fun j ρ => ∃ c : Sl, ρ = [.va (D (.list (hs.map hdD))), .va (D (.list ((choices (hs.take i)).map chL))), .va (D (hdD h)), .ow (OwnL ((chStep ((choices (hs.take i)).take j) h).map chL)), c, d]) PassesOwn.never rfl (it_listD (ee_v 1 rfl)) ⟨_, rfl⟩ ?_ ?_
      · rintro j T ρ' hT ⟨c, rfl⟩
        rw [List.getElem?_map, List.getElem?_map] at hT
        cases hj : (choices (hs.take i))[j]? with
        | none => rw [hj] at hT; cases hT
        | some ch =>
          rw [hj] at hT
          rw [← Option.some.inj hT]
          have hcl := len_choice (List.mem_of_getElem? hj)
          rw [List.length_take] at hcl
          have hls := len_chStep h ((choices (hs.take i)).take j)
          have hle : ((choices (hs.take i)).take j).length * h.2.toNat ≤ 3000 := by
            have h1 : ((choices (hs.take i)).take j).length ≤ cprod (hs.take i) := by
              rw [List.length_take, len_choices]
              omega
            rw [htk, cprod_snoc] at hk1
            exact Nat.le_trans (Nat.mul_le_mul_right _ h1) (by omega)
          refine ⟨_, _, gg_name 4 hn rfl (.inr rfl), ?_⟩
          refine bb_extend (es := (List.range h.2.toNat).map fun p => chL (ch ++ [(h, ((p : Nat) : Int))])) 3 rfl ?_ (EO.d (o_lc (own := [("place", 5)]) ((List.range h.2.toNat).map fun p => chL (ch ++ [(h, ((p : Nat) : Int))])) rfl hn
            (it_range1 (n := h.2) B.range (e_ixT (ee_v 2 rfl) ee_int (at_ 1 rfl rfl)) (by omega) (by omega)) (blkOk_by (N := ["heads", "found", "one", "longer", "chosen", "place"]) (sc := defScope sChoicesOf) (by decide +kernel)) ?_ ?_ ?_)) ?_
          · rw [List.length_map, List.length_map, List.length_range, hls]
            omega
          · rw [List.length_map, List.length_range, rangeT_length]
          · rw [rangeT_length]
            omega
          · intro k T x hT hx
            obtain ⟨hk, rfl⟩ := rangeT_at hT
            rw [List.getElem?_map, List.getElem?_range hk] at hx
            rw [← Option.some.inj hx]
            refine turn_keep (fun s H C cl fp => gg_name 5 hn rfl (.inl rfl)) fun s H C cl fp => EE.d (e_catL (ee_v 4 rfl) (ee_lst (ead_cons (ee_tup (ead_cons (ee_v 2 rfl) (ead_cons (ee_v 5 rfl) ead_nil))) ead_nil)) ?_) ?_
            · rw [List.length_map]
              show ch.length + 1 ≤ 100000
              omega
            · rw [Int.zero_add]
              show _ = PyData.list ((ch ++ [(h, ((k : Nat) : Int))]).map chPair)
              rw [List.map_append]
              rfl
          · refine bb_nil ⟨.va (D (chL ch)), ?_⟩
            rw [List.take_succ, hj]
            show _ = [_, _, _, Sl.ow (OwnL ((chStep (_ ++ [ch]) h).map chL)), _, _]
            unfold chStep
            rw [List.flatMap_append, List.map_append, List.flatMap_cons, List.flatMap_nil, List.append_nil, List.map_map]
            rfl
      · rintro ρ' ⟨c, rfl⟩
        rw [List.length_map, List.length_map, List.take_length, ← choices_snoc, ← htk]
        exact bb_fixL 3 rfl (bb_set 1 hn rfl (.inl rfl) (ee_v 3 rfl) (bb_nil ⟨_, _, _, _, rfl⟩))
  · rintro ρ' ⟨a, b, c, d, rfl⟩
    rw [List.length_map, List.length_map, List.take_length]
    exact bb_ret (ee_v 1 rfl)
/-! _law_choices -/
theorem sc_lchoices : FnScope ["_law_tops", "_law_rows", "_law_one", "_law_longer", "_law_row", "_law_place_here"] ["_law_tops"] (defScope sLawChoices) := ⟨rfl, rfl, rfl, by decide +kernel, rfl, by decide +kernel, by decide +kernel⟩
theorem ok_lchoices (B : Bi mg) (F : FnP K "_law_choices" "_law_choices" sLawChoices f fd) : FnOk P w K mg base CX0 1 f fd ["_law_tops"] (spS S_choices) := by
  refine fn_ok F sc_lchoices (by rintro _ _ ⟨_, _, _, _, rfl, rfl⟩; rfl) ?_
  rintro cdv A outer s H E hr _ _ ⟨hs, hc, hp, hl, rfl, rfl⟩
  have hn := sc_lchoices.nd
  refine bb_set 1 hn rfl (.inl rfl) (ee_lst (ead_cons (ee_lst ead_nil) ead_nil)) ?_
  refine bb_for (fun i ρ => ∃ a b c d : Sl, ρ = [.va (D (.list (hs.map hdD))), .va (D (.list ((choices (hs.take i)).map chL))), a, b, c, d]) PassesOwn.never rfl (it_listD (ee_v 0 rfl)) ⟨_, _, _, _, rfl⟩ ?_ ?_
  · rintro i T ρ' hT ⟨a, b, c, d, rfl⟩
    rw [List.getElem?_map, List.getElem?_map] at hT
    cases hi : hs[i]? with
    | none => rw [hi] at hT; cases hT
    | some h =>
      rw [hi] at hT
      rw [← Option.some.inj hT]
      have hh := hc h (List.mem_of_getElem? hi)
      have hil : i < hs.length := (List.getElem?_eq_some_iff.mp hi).1
      have hc1 : ∀ x ∈ hs, 1 ≤ x.2 := fun x hx => (hc x hx).1
      have hk := cprod_take hs i hc1
      have hk1 := cprod_take hs (i + 1) hc1
      have htk : hs.take (i + 1) = hs.take i ++ [h] := by rw [List.take_succ, hi]; rfl
      refine ⟨_, _, gg_name 2 hn rfl (.inr rfl), ?_⟩
      refine bb_setO 3 hn rfl (.inl rfl) (eo_lst ead_nil) ?_
      refine bb_for (fun j ρ => ∃ c : Sl, ρ = [.va (D (.list (hs.map hdD))), .va (D (.list ((choices (hs.take i)).map chL))), .va (D (hdD h)), .ow (OwnL ((chStep ((choices (hs.take i)).take j) h).map chL)), c, d]) PassesOwn.never rfl (it_listD (ee_v 1 rfl)) ⟨_, rfl⟩ ?_ ?_
      · rintro j T ρ' hT ⟨c, rfl⟩
        rw [List.getElem?_map, List.getElem?_map] at hT
        cases hj : (choices (hs.take i))[j]? with
        | none => rw [hj] at hT; cases hT
        | some ch =>
          rw [hj] at hT
          rw [← Option.some.inj hT]
          have hcl := len_choice (List.mem_of_getElem? hj)
          rw [List.length_take] at hcl
          have hls := len_chStep h ((choices (hs.take i)).take j)
          have hle : ((choices (hs.take i)).take j).length * h.2.toNat ≤ 3000 := by
            have h1 : ((choices (hs.take i)).take j).length ≤ cprod (hs.take i) := by
              rw [List.length_take, len_choices]
              omega
            rw [htk, cprod_snoc] at hk1
            exact Nat.le_trans (Nat.mul_le_mul_right _ h1) (by omega)
          refine ⟨_, _, gg_name 4 hn rfl (.inr rfl), ?_⟩
          refine bb_extend (es := (List.range h.2.toNat).map fun p => chL (ch ++ [(h, ((p : Nat) : Int))])) 3 rfl ?_ (EO.d (o_lc (own := [("_law_place_here", 5)]) ((List.range h.2.toNat).map fun p => chL (ch ++ [(h, ((p : Nat) : Int))])) rfl hn
            (it_range1 (n := h.2) B.range (e_ixT (ee_v 2 rfl) ee_int (at_ 1 rfl rfl)) (by omega) (by omega)) (blkOk_by (N := ["_law_tops", "_law_rows", "_law_one", "_law_longer", "_law_row", "_law_place_here"]) (sc := defScope sLawChoices) (by decide +kernel)) ?_ ?_ ?_)) ?_
          · rw [List.length_map, List.length_map, List.length_range, hls]
            omega
          · rw [List.length_map, List.length_range, rangeT_length]
          · rw [rangeT_length]
            omega
          · intro k T x hT hx
            obtain ⟨hk, rfl⟩ := rangeT_at hT
            rw [List.getElem?_map, List.getElem?_range hk] at hx
            rw [← Option.some.inj hx]
            refine turn_keep (fun s H C cl fp => gg_name 5 hn rfl (.inl rfl)) fun s H C cl fp => EE.d (e_catL (ee_v 4 rfl) (ee_lst (ead_cons (ee_tup (ead_cons (ee_v 2 rfl) (ead_cons (ee_v 5 rfl) ead_nil))) ead_nil)) ?_) ?_
            · rw [List.length_map]
              show ch.length + 1 ≤ 100000
              omega
            · rw [Int.zero_add]
              show _ = PyData.list ((ch ++ [(h, ((k : Nat) : Int))]).map chPair)
              rw [List.map_append]
              rfl
          · refine bb_nil ⟨.va (D (chL ch)), ?_⟩
            rw [List.take_succ, hj]
            show _ = [_, _, _, Sl.ow (OwnL ((chStep (_ ++ [ch]) h).map chL)), _, _]
            unfold chStep
            rw [List.flatMap_append, List.map_append, List.flatMap_cons, List.flatMap_nil, List.append_nil, List.map_map]
            rfl
      · rintro ρ' ⟨c, rfl⟩
        rw [List.length_map, List.length_map, List.take_length, ← choices_snoc, ← htk]
        exact bb_fixL 3 rfl (bb_set 1 hn rfl (.inl rfl) (ee_v 3 rfl) (bb_nil ⟨_, _, _, _, rfl⟩))
  · rintro ρ' ⟨a, b, c, d, rfl⟩
    rw [List.length_map, List.length_map, List.take_length]
    exact bb_ret (ee_v 1 rfl)
end
end K53

set_option Elab.async false
set_option linter.all false
set_option maxRecDepth 100000
set_option maxHeartbeats 4000000
namespace K53
open PySem PySem.Spec PyProof.Rows L2 DL Q
def ChsOk (ch : Ch) : Prop := ∀ p ∈ ch, ChOk p
theorem getC_mem {ch : Ch} {h : Hd} {p : Int} (e : getC ch h = some p) : (h, p) ∈ ch := by
  unfold getC at e
  obtain ⟨q, hq, e2⟩ := Option.map_eq_some_iff.mp e
  have h1 := List.find?_some hq
  have h2 := List.mem_of_find?_eq_some hq
  have h3 : q.1 = h := of_decide_eq_true h1
  rw [← h3, ← e2]
  exact h2
def stD (ch : Ch) : PyData → PyData
  | .tuple (.str s :: as) => match getC ch (s, as.length) with
    | some p => as.getD p.toNat .none
    | none => .none
  | _ => .none
theorem stand_ok {ch : Ch} (ok : ChsOk ch) {t : PyData} (ht : Tm t) (ha : isApp t = true) (hc : (getC ch (hdOf t)).isSome = true) :
    ∃ s as p d, t = .tuple (.str s :: as) ∧ getC ch (s, as.length) = some ((p : Nat) : Int) ∧ as[p]? = some d ∧ stD ch t = d ∧ Tm d ∧ lev d ≤ lev t ∧ cnt d ≤ cnt t := by
  obtain ⟨s, as, rfl, hs, hl, hA⟩ := ht.app_ ha
  obtain ⟨p, hp⟩ := Option.isSome_iff_exists.mp hc
  have hp' : getC ch (s, ((as.length : Nat) : Int)) = some p := hp
  have h := ok _ (getC_mem hp')
  have h0 : 0 ≤ p := h.p0
  have h1 : p < ((as.length : Nat) : Int) := h.pl
  have hlt : p.toNat < as.length := by omega
  have hm : as[p.toNat] ∈ as := List.getElem_mem hlt
  have l1 := levL_mem hm
  have l2 := cntL_mem hm
  refine ⟨s, as, p.toNat, as[p.toNat], rfl, by rw [hp', Int.toNat_of_nonneg h0], List.getElem?_eq_getElem hlt, ?_, hA _ hm, by rw [lev_app]; omega, by rw [cnt_app]; omega⟩
  show (match getC ch (s, ((as.length : Nat) : Int)) with | some p => as.getD p.toNat .none | none => .none) = _
  rw [hp']
  show as.getD p.toNat .none = _
  rw [List.getD_eq_getElem?_getD, List.getElem?_eq_getElem hlt]
  rfl
open Classical in
noncomputable def rchB (ws : List HdP) (a b : Hd) : Bool := decide (Rch ws a b)
theorem rchB_iff {ws : List HdP} {a b : Hd} : rchB ws a b = true ↔ Rch ws a b := by
  unfold rchB
  exact @decide_eq_true_iff _ (Classical.propDecidable _)
theorem rchP_dec {ws : List HdP} {a b : Hd} (ks : List Hd) (h : RchP ws a ks) : decide (b ∈ ks) = rchB ws a b := by
  rw [Bool.eq_iff_iff, decide_eq_true_eq, rchB_iff]
  exact h b
noncomputable def inrB (rs : Rl) (c : PyData × PyData) : Bool := rchB (waysOf (sides rs)) (hdOf c.2) (hdOf c.1)
def hasB (ch : Ch) (t : PyData) : Bool := (getC ch (hdOf t)).isSome
noncomputable def badB (ch : Ch) (rs : Rl) (c : PyData × PyData) : Bool := inrB rs c && ((!hasB ch c.1 || !hasB ch c.2) || (!PyData.eqv (stD ch c.1) (stD ch c.2) && !isPartB (stD ch c.2) (stD ch c.1)))
noncomputable def sameF (ch : Ch) (rs : Rl) (c : PyData × PyData) : Option HdP := if (inrB rs c && PyData.eqv (stD ch c.1) (stD ch c.2)) = true then some (hdOf c.1, hdOf c.2) else none
noncomputable def sameOf (ch : Ch) (rs : Rl) (cs : Rl) : List HdP := cs.filterMap (sameF ch rs)
noncomputable def letsB (ch : Ch) (rs : Rl) : Bool := !((sides rs).any (badB ch rs)) && !((sameOf ch rs (sides rs)).any fun p => rchB (sameOf ch rs (sides rs)) p.1 p.1)
section
variable {P : Program} {w : World} {K : PySem.W.Frag} {mg : Str → Option Value} {base : Heap} {f : Addr} {fd : FuncData} {aR aC : Addr}
def S_lets (aR aC : Addr) : List Ty → Ty → Prop := fun Ts T => ∃ (ch : Ch) (rs : Rl), ChsOk ch ∧ RlOk rs ∧ Ts = [CallsT aC ch, RulesT aR rs] ∧ T = D (.bool (letsB ch rs))
theorem sc_lets : FnScope ["self", "rules", "led", "same", "left", "call", "first", "last"] ["self", "rules"] (defScope sCallsLets) := ⟨rfl, rfl, rfl, by decide +kernel, rfl, by decide +kernel, by decide +kernel⟩
theorem ins_calls {ch : Ch} {m : Str} (h : (m == ("place_of" : Str)) = false) : InsOf aC m (CallsT aC ch) := fun H v ⟨a, dx, d, xs, h1, h2, _, _⟩ => ⟨a, dx, _, h1, h2, by
  show List.lookup m [("place_of", V.ref d)] = none
  simp only [List.lookup, h]⟩
theorem sameOf_ws {ch : Ch} {rs : Rl} (ok : RlOk rs) : WsOk (sameOf ch rs (sides rs)) := by
  have hws := wsOk ok
  refine ⟨fun p hp => ?_, ?_⟩
  · obtain ⟨c, hc, e⟩ := List.mem_filterMap.mp hp
    unfold sameF at e
    split at e
    · cases e
      have h := sideOk ok hc
      exact ⟨name_madeH ok h.m1, name_madeH ok h.m2⟩
    · cases e
  · have h1 := hws.2
    unfold waysOf at h1
    rw [List.length_map] at h1
    exact Nat.le_trans (List.length_filterMap_le _ _) h1
theorem ok_lets (B : Bi mg) (G1 : Fn P w K mg base 2 "head" S_head) (G2 : Fn P w K mg base 11 "sides_of_calls" (S_sides aR)) (G3 : FnO P w K mg base 12 "leads" (S_leads aR)) (G4 : FnO P w K mg base 1 "led_from" S_led) (G5 : Fn P w K mg base 11 "is_part" S_ispart)
    (M1 : Me P w K mg base 3 aC "has_place" (S_hasp aC)) (M2 : Me P w K mg base 3 aC "stands" (S_stands aC)) (F : FnP K "lets" "Calls.lets" sCallsLets f fd) : FnOk P w K mg base CX0 13 f fd ["self", "rules"] (spS (S_lets aR aC)) := by
  refine fn_ok F sc_lets (by rintro _ _ ⟨_, _, _, _, rfl, rfl⟩; rfl) ?_
  rintro cdv A outer s H E hr _ _ ⟨ch, rs, cok, ok, rfl, rfl⟩
  have h1 : Room 1 _ := hr.mono (by decide)
  have h2 : Room 2 _ := hr.mono (by decide)
  have h3 : Room 3 _ := hr.mono (by decide)
  have h11 : Room 11 _ := hr.mono (by decide)
  have hn := sc_lets.nd
  have hws := sameOf_ws (ch := ch) ok
  refine bb_setO 2 hn rfl (.inl rfl) (eo_call G3 hr (ea_cons (ee_v 1 rfl) ea_nil) ⟨rs, ok, rfl, rfl⟩) ?_
  refine bb_freeze 2 rfl (O := OwnD _) (T := DcT _) ownD_fix ?_
  refine bb_setO 3 hn rfl (.inr rfl) (eo_lst ead_nil) ?_
  refine bb_for (fun i ρ => ((sides rs).take i).any (badB ch rs) = false ∧ ∃ a b c d : Sl, ρ = [.va (CallsT aC ch), .va (RulesT aR rs), .va (DcT ((madeH rs).map fun h => (h, DcS (RchP (waysOf (sides rs)) h)))), .ow (OwnL ((sameOf ch rs ((sides rs).take i)).map nkD)), a, b, c, d]) PassesOwn.never rfl
    (it_listD (ee_call G2 h11 (ea_cons (ee_v 1 rfl) ea_nil) ⟨rs, ok, rfl, rfl⟩)) ⟨rfl, _, _, _, _, rfl⟩ ?_ ?_
  · rintro i T ρ' hT ⟨hnb, a, b, cc, dd, rfl⟩
    rw [List.getElem?_map, List.getElem?_map] at hT
    cases hi : (sides rs)[i]? with
    | none => rw [hi] at hT; cases hT
    | some c =>
      rw [hi] at hT
      rw [← Option.some.inj hT]
      have hmem := List.mem_of_getElem? hi
      have hc := sideOk ok hmem
      have htk : (sides rs).take (i + 1) = (sides rs).take i ++ [c] := by rw [List.take_succ, hi]; rfl
      have hbad : badB ch rs c = true → letsB ch rs = false := fun e => by
        unfold letsB
        rw [List.any_eq_true.mpr ⟨c, hmem, e⟩]
        rfl
      have hnext : badB ch rs c = false → ((sides rs).take (i + 1)).any (badB ch rs) = false := fun e => by
        rw [htk, List.any_append, hnb, List.any_cons, e]
        rfl
      have hsl : (sameOf ch rs ((sides rs).take i)).length < 100000 := by
        have := hws.2
        have h1 := (wsOk ok).2
        unfold waysOf at h1
        rw [List.length_map] at h1
        have h2 : (sameOf ch rs ((sides rs).take i)).length ≤ ((sides rs).take i).length := List.length_filterMap_le _ _
        rw [List.length_take] at h2
        omega
      refine ⟨_, _, gg_pair rfl (gg_name 4 hn rfl (.inl rfl)) (gg_name 5 hn rfl (.inl rfl)), ?_⟩
      have hgl := getH_map (ks := madeH rs) (F := fun h => DcS (RchP (waysOf (sides rs)) h)) hc.m2
      refine bb_if0 (t_inS hr (EE.d (ee_call G1 h2 (ea_cons (ee_v 4 rfl) ea_nil) ⟨c.1, hc.t1, rfl, rfl⟩) (headD_app hc.a1)) (e_getH hr (ee_v 2 rfl) (EE.d (ee_call G1 h2 (ea_cons (ee_v 5 rfl) ea_nil) ⟨c.2, hc.t2, rfl, rfl⟩) (headD_app hc.a2)) hgl) (fun ks hk => rchP_dec ks hk) (b := inrB rs c)) (fun hin => ?_) (fun hin => ?_)
      · refine bb_if0 (EW.t (ew_or (et_not (et_val (ee_meth M1 h3 (ee_v 0 rfl) (ins_calls rfl) (ea_cons (ee_v 4 rfl) ea_nil) ⟨ch, c.1, hc.t1, hc.a1, rfl, rfl⟩))) fun _ => ew_or1 (et_not (et_val (ee_meth M1 h3 (ee_v 0 rfl) (ins_calls rfl) (ea_cons (ee_v 5 rfl) ea_nil) ⟨ch, c.2, hc.t2, hc.a2, rfl, rfl⟩))))) (fun hh => ?_) (fun hh => ?_)
        · refine bb_ret (EE.d ee_bl ?_)
          rw [hbad]
          unfold badB hasB
          rw [hin, hh]
          rfl
        · rw [Bool.or_eq_false_iff, Bool.not_eq_false', Bool.not_eq_false'] at hh
          obtain ⟨x1, as1, p1, d1, e1, e2, e3, e4, e5, e6, e7⟩ := stand_ok cok hc.t1 hc.a1 hh.1
          obtain ⟨x2, as2, p2, d2, g1, g2, g3, g4, g5, g6, g7⟩ := stand_ok cok hc.t2 hc.a2 hh.2
          have q1 := hc.l1
          have q2 := hc.l2
          have q3 := hc.c1
          have q4 := hc.c2
          have t1 : Tm (.tuple (.str x1 :: as1)) := by rw [← e1]; exact hc.t1
          have t2 : Tm (.tuple (.str x2 :: as2)) := by rw [← g1]; exact hc.t2
          have hv : badB ch rs c = (!PyData.eqv d1 d2 && !isPartB d2 d1) := by
            unfold badB hasB
            rw [hin, hh.1, hh.2, e4, g4]
            rfl
          refine bb_if (t_eqD hr (ee_meth M2 h3 (ee_v 0 rfl) (ins_calls rfl) (ea_cons (EE.d (ee_v 4 rfl) e1) ea_nil) ⟨ch, x1, as1, p1, d1, t1, e2, e3, rfl, rfl⟩) (ee_meth M2 h3 (ee_v 0 rfl) (ins_calls rfl) (ea_cons (EE.d (ee_v 5 rfl) g1) ea_nil) ⟨ch, x2, as2, p2, d2, t2, g2, g3, rfl, rfl⟩) (e5.shaped (by omega)) (g5.shaped (by omega))) (fun he => ?_) (fun he => ?_)
          · refine bb_append (d := nkD (hdOf c.1, hdOf c.2)) 3 rfl (by rw [List.length_map]; exact hsl) (ee_tup (ead_cons (EE.d (ee_call G1 h2 (ea_cons (ee_v 4 rfl) ea_nil) ⟨c.1, hc.t1, rfl, rfl⟩) (headD_app hc.a1)) (ead_cons (EE.d (ee_call G1 h2 (ea_cons (ee_v 5 rfl) ea_nil) ⟨c.2, hc.t2, rfl, rfl⟩) (headD_app hc.a2)) ead_nil))) ?_
            refine bb_nil (bb_nil (bb_nil ⟨hnext (by rw [hv, he]; rfl), .va (D c.1), .va (D c.2), cc, dd, ?_⟩))
            rw [htk]
            unfold sameOf
            rw [List.filterMap_append, List.map_append]
            have : [c].filterMap (sameF ch rs) = [(hdOf c.1, hdOf c.2)] := by
              rw [List.filterMap_cons]
              unfold sameF
              rw [hin, e4, g4, he]
              rfl
            rw [this]
            rfl
          · refine bb_if0 (et_not (et_val (ee_call G5 h11 (ea_cons (ee_meth M2 h3 (ee_v 0 rfl) (ins_calls rfl) (ea_cons (EE.d (ee_v 5 rfl) g1) ea_nil) ⟨ch, x2, as2, p2, d2, t2, g2, g3, rfl, rfl⟩) (ea_cons (ee_meth M2 h3 (ee_v 0 rfl) (ins_calls rfl) (ea_cons (EE.d (ee_v 4 rfl) e1) ea_nil) ⟨ch, x1, as1, p1, d1, t1, e2, e3, rfl, rfl⟩) ea_nil)) ⟨d2, d1, g5, by omega, e5, by omega, by omega, rfl, rfl⟩))) (fun hp => ?_) (fun hp => ?_)
            · refine bb_ret (EE.d ee_bl ?_)
              rw [hbad]
              rw [hv, he, hp]
              rfl
            · refine bb_nil (bb_nil (bb_nil ⟨hnext (by rw [hv, hp, Bool.and_false]), .va (D c.1), .va (D c.2), cc, dd, ?_⟩))
              rw [htk]
              unfold sameOf
              rw [List.filterMap_append, List.map_append]
              have : [c].filterMap (sameF ch rs) = [] := by
                rw [List.filterMap_cons]
                unfold sameF
                rw [hin, e4, g4, he]
                rfl
              rw [this, List.map_nil, List.append_nil]
              rfl
      · refine bb_nil ⟨hnext (by unfold badB; rw [hin]; rfl), .va (D c.1), .va (D c.2), cc, dd, ?_⟩
        rw [htk]
        unfold sameOf
        rw [List.filterMap_append, List.map_append]
        have : [c].filterMap (sameF ch rs) = [] := by
          rw [List.filterMap_cons]
          unfold sameF
          rw [hin]
          rfl
        rw [this, List.map_nil, List.append_nil]
        rfl
  · rintro ρ' ⟨hnb, a, b, cc, dd, rfl⟩
    rw [List.length_map, List.length_map, List.take_length] at hnb ⊢
    refine bb_fixL 3 rfl (bb_ret (EE.d (ee_not (e_any (bs := (sameOf ch rs (sides rs)).map fun p => rchB (sameOf ch rs (sides rs)) p.1 p.1) rfl B.any (EE.d (EO.d (o_lc (own := [("first", 6), ("last", 7)]) ((sameOf ch rs (sides rs)).map fun p => PyData.bool (rchB (sameOf ch rs (sides rs)) p.1 p.1)) rfl hn (it_listD (ee_v 3 rfl))
      (blkOk_by (N := ["self", "rules", "led", "same", "left", "call", "first", "last"]) (sc := defScope sCallsLets) (by decide +kernel)) ?_ ?_ ?_)) ?_))) ?_))
    · rw [List.length_map, List.length_map, List.length_map]
    · rw [List.length_map, List.length_map]
      have := hws.2
      omega
    · intro i T d hT hd
      rw [List.getElem?_map, List.getElem?_map] at hT
      rw [List.getElem?_map] at hd
      cases e : (sameOf ch rs (sides rs))[i]? with
      | none => rw [e] at hT; cases hT
      | some p =>
        rw [e] at hT hd
        rw [← Option.some.inj hT, ← Option.some.inj hd]
        have hp := hws.1 p (List.mem_of_getElem? e)
        refine turn_keep (fun s H C cl fp => gg_pair rfl (gg_name 6 hn rfl (.inl rfl)) (gg_name 7 hn rfl (.inl rfl))) fun s H C cl fp => ?_
        exact e_inS' hr (ee_v 6 rfl) (EO.fix (eo_call G4 h1 (ea_cons (ee_v 3 rfl) (ea_cons (ee_v 6 rfl) ea_nil)) ⟨_, p.1, hws, hp.1, rfl, rfl⟩) ownS_fix) (fun ks hk => rchP_dec ks hk)
    · rw [List.map_map]
      rfl
    · rw [List.any_map]
      unfold letsB
      rw [hnb]
      rfl
end
end K53

set_option Elab.async false
set_option linter.all false
set_option maxRecDepth 100000
set_option maxHeartbeats 4000000
namespace DL
open PySem PySem.Spec PyProof.Rows L2 Q
section
variable {X : Cx} {ρ : List Sl} {F Hs H : Hp} {σ : L2.St} {D' : Ends} {rest : List Stmt} {x dx C : Addr} {fs : List (Str × V)} {e : Expr} {O : Ow} {f : Str} {pos apos npos : Pos}
/-- an if whose branch is never taken, at one frame -/
theorem rs_skip {c : Expr} {body : List Stmt} (E : ER ρ F Hs H σ) (hc : ET X ρ c false) (h : ∀ Hs' H', Ext Hs H Hs' H' → RSs X rest D' σ H') : RSs X (.If c body [] pos :: rest) D' σ H := by
  refine RSs.cons (ps_if pt_RT (pss_RSs (sts := body)) pss_nil) ?_
  refine hc F Hs H σ _ E fun Hs1 H1 X1 => ?_
  exact iteF (h _ _ X1)
/-- self.f = e, e a new own object -/
theorem rs_fldO (E : ER ρ F Hs H σ) (h0 : ρ[0]? = some (.va (Cst (.ref x)))) (hF : F x = some (.ins C dx fs)) (cC : Cls X.K C) (nC : NoAttr X.K C f) (hl : fs.length < 1000) (he : EO X ρ e O)
    (k : ∀ p u Hs' H', Ext Hs H Hs' H' → H p = none → Hs' p = none → H' p = some u → O.p Hs' p u → RSs X rest D' σ (upd H' x (.ins C dx (putF f (.ref p) fs))))
    (hN : X.N[0]? = some ("self" : Str) := by rfl) (hv : Vis X.env.scope "self" := by first | exact Or.inl rfl | exact Or.inr (Or.inl rfl) | exact Or.inr (Or.inr rfl))
    (hs : swapsWith e (some (.Attribute (.Name "self" npos) f apos)) pos.line X.env = pure false := by rfl) : RSs X (.Assign [.Attribute (.Name "self" npos) f apos] e pos :: rest) D' σ H := by
  refine RSs.cons (ps_fld (pe_var hN hv (by decide) (by decide)) pe_RE hs) ?_
  refine he F Hs H σ _ E fun p u Hs1 H1 X1 g1 g2 g3 g4 => ?_
  obtain ⟨v, hv1, hv2⟩ := E.v 0 _ h0
  have hv3 : v = .ref x := hv2
  subst hv3
  refine ⟨.ref x, hv1, x, C, dx, fs, rfl, ((E.ext X1).f x _ hF).2, cC, nC, hl, ?_⟩
  exact k p u Hs1 H1 X1 g1 g2 g3 g4
end
/-- what an __init__ leaves -/
structure Made (C x dx : Addr) (fs : List (Str × V)) (Hs H Hs' H' : Hp) : Prop where
  a : Same Hs Hs'
  b : Same Hs' H'
  c : ∀ q u, H q = some u → Hs q = none → q ≠ x → H' q = some u ∧ (Hs' q = none ∨ IsT u)
  n : Hs' x = none
  i : H' x = some (.ins C dx fs)
theorem Made.ext {C x dx : Addr} {fs : List (Str × V)} {Hs H Hs' H' : Hp} {o : HO} (m : Made C x dx fs Hs (upd (upd H dx (.own x)) x o) Hs' H') (hx : H x = none) (hd : H dx = none) :
    Ext Hs H (upd Hs' x (.ins C dx fs)) H' := by
  refine ⟨m.a.trans ((Same.refl _).newU m.n), fun q u e => ?_, fun q u e g => ?_⟩
  · by_cases z : q = x
    · rw [z, upd_same] at e
      rw [z, ← e]
      exact m.i
    · rw [upd_ne z] at e
      exact m.b q u e
  · have z : q ≠ x := ne_of_none e hx
    have z2 : q ≠ dx := ne_of_none e hd
    rw [upd_ne z]
    exact m.c q u (by rw [upd_ne z, upd_ne z2]; exact e) g z
end DL
namespace K53
open PySem PySem.Spec PyProof.Rows L2 DL Q
section
variable {P : Program} {w : World} {K : PySem.W.Frag} {mg : Str → Option Value} {base : Heap} {f : Addr} {fd : FuncData} {aR aC : Addr}
/-! Rules.__init__ -/
def spR (aR : Addr) : Sp := fun vs H Q _ => ∃ (x dx : Addr) (v : V) (Hs : Hp) (rs : Rl), vs = [.ref x, v] ∧ H x = some (.ins aR dx []) ∧ Hs x = none ∧ Same Hs H ∧ Dq Hs v (.list (rs.map ruleD)) ∧ RlOk rs ∧
  ∀ Hs' H' l xs, Made aR x dx [("kept", .ref l)] Hs H Hs' H' → H l = none → l ≠ x → Hs' l = none → H' l = some (.lst xs) → DqAll Hs' xs (rs.map ruleD) → Q .non H'
theorem sc_rinit : FnScope ["self", "rules", "rule"] ["self", "rules"] (defScope sRulesInit) := ⟨rfl, rfl, rfl, by decide +kernel, rfl, by decide +kernel, by decide +kernel⟩
theorem kit_lst (xs : List PyData) : kitB (tyName (.list xs)) "list" = some true := (by decide +kernel : kitB "list" "list" = some true)
theorem er_init {N : List Str} {x : Addr} {v : V} {d : PyData} {Hs H : Hp} (hN : 2 ≤ N.length) (s : Same Hs H) (hv : Dq Hs v d) : ER (start0 N [Cst (.ref x), D d]) (fun p => if (Hs p).isNone then H p else none) Hs H (L2.start N [.ref x, v]) :=
  er_start s (.cons rfl (.cons hv .nil))
theorem init_frame {Hs H : Hp} {x : Addr} {o : HO} (h : H x = some o) (n : Hs x = none) : (fun p => if (Hs p).isNone then H p else none) x = some o := by
  show (if (Hs x).isNone then H x else none) = some o
  rw [n]
  exact h
theorem ok_rinit (B : Bi mg) (cR : Cls K aR) (nR : NoAttr K aR "kept") (G : Fn P w K mg base 12 "is_rule" S_isrule) (F : FnP K "__init__" "Rules.__init__" sRulesInit f fd) : FnOk P w K mg base CX0 13 f fd ["self", "rules"] (spR aR) := by
  refine F.ok sc_rinit (fun vs H Q E h => ?_) (fun cdv A outer s H vs Q E hr h => ?_)
  · obtain ⟨x, dx, v, Hs, rs, rfl, _⟩ := h
    rfl
  · obtain ⟨x, dx, v, Hs, rs, rfl, hx, hxs, sm, hv, ok, q⟩ := h
    refine ⟨_, PSs.nox pss_RSs, ?_⟩
    have hn := sc_rinit.nd
    have hln := ok.ln
    have E0 := er_init (N := ["self", "rules", "rule"]) (x := x) (by decide) sm hv
    have hF := init_frame hx hxs
    refine rs_skip (ρ := start0 ["self", "rules", "rule"] [Cst (.ref x), D (.list (rs.map ruleD))]) E0 (ET.to (EW.t (ew_or (et_not (et_val (e_isi B.isinstance (ee_v 1 rfl) (ee_bty B.list boot_list) (kit_lst _)))) fun _ => ew_or1 (t_gtI (e_lenL B.len (ee_v 1 rfl)) (ee_globI B.mrules)))) ?_) fun Hs1 H1 X1 => ?_
    · rw [List.length_map, decide_eq_false (by omega)]
      rfl
    · have E1 := E0.ext X1
      refine rs_skip (ρ := start0 ["self", "rules", "rule"] [Cst (.ref x), D (.list (rs.map ruleD))]) E1 (ET.to (et_not (et_val (e_all (bs := rs.map fun _ => true) rfl B.all (EE.d (EO.d (o_lc (own := [("rule", 2)]) (rs.map fun _ => PyData.bool true) rfl hn (it_listD (ee_v 1 rfl)) (blkOk_by (N := ["self", "rules", "rule"]) (sc := defScope sRulesInit) (by decide +kernel)) ?_ ?_ ?_)) ?_)))) ?_) fun Hs2 H2 X2 => ?_
      · rw [List.length_map, List.length_map, List.length_map]
      · rw [List.length_map, List.length_map]
        omega
      · intro i T d hT hd
        rw [List.getElem?_map, List.getElem?_map] at hT
        rw [List.getElem?_map] at hd
        cases e : rs[i]? with
        | none => rw [e] at hT; cases hT
        | some p =>
          rw [e] at hT hd
          rw [← Option.some.inj hT, ← Option.some.inj hd]
          exact turn_keep (fun s H C cl fp => gg_name 2 hn rfl (.inl rfl)) fun s H C cl fp => ee_call G hr (ea_cons (ee_v 2 rfl) ea_nil) ⟨p, ok.ok p (List.mem_of_getElem? e), rfl, rfl⟩
      · rw [List.map_map]
        rfl
      · have e1 : ((rs.map fun _ => true).all _root_.id) = true := List.all_eq_true.mpr fun x hx => by
          obtain ⟨y, _, rfl⟩ := List.mem_map.mp hx
          rfl
        rw [e1]
        rfl
      · have E2 := E1.ext X2
        refine rs_fldO (ρ := start0 ["self", "rules", "rule"] [Cst (.ref x), D (.list (rs.map ruleD))]) E2 rfl hF cR nR (by decide) (o_list B.list (ee_v 1 rfl)) fun p u Hs3 H3 X3 g1 g2 g3 g4 => ?_
        obtain ⟨xs, rfl, hxs'⟩ := g4
        have E3 := E2.ext X3
        have X := (X1.trans X2).trans X3
        have hpx : p ≠ x := fun z => by
          rw [z] at g1
          rw [(E2.f x _ hF).2] at g1
          cases g1
        refine RSs.of pss_nil ?_
        refine q Hs3 _ p xs ⟨X.a, fun b o e => ?_, fun b o e g z => ?_, ?_, upd_same⟩ ((X1.trans X2).free sm g1) hpx g2 (by rw [upd_ne hpx]; exact g3) hxs'
        · have hb : b ≠ x := fun z => by
            rw [z, ((E3.f x _ hF).1).resolve_right (fun ⟨_, y⟩ => nomatch y)] at e
            cases e
          rw [upd_ne hb]
          exact X.b b o e
        · rw [upd_ne z]
          exact X.c b o e g
        · exact ((E3.f x _ hF).1).resolve_right (fun ⟨_, y⟩ => nomatch y)
end
end K53

set_option Elab.async false
set_option linter.all false
set_option maxRecDepth 100000
set_option maxHeartbeats 4000000
namespace DL
open PySem PySem.Spec PyProof.Rows L2
theorem EE.run {X : Cx} {ρ : List Sl} {e : Expr} {T : Ty} (h : EE X ρ e T) {F Hs H : Hp} {σ : L2.St} {Q : VK} (E : ER ρ F Hs H σ) (q : ∀ v Hs' H', Ext Hs H Hs' H' → T.p Hs' v → Q v H') : RE X e σ H Q := h F Hs H σ Q E q
theorem GG.run {X : Cx} {ρ ρ' : List Sl} {tg : Expr} {T : Ty} {js : List Nat} (h : GG X ρ tg T ρ' js) {F Hs H : Hp} {σ : L2.St} {v : V} {Q : L2.St → Hp → Prop} (E : ER ρ F Hs H σ) (hv : T.p Hs v) (q : ∀ σ', ER ρ' F Hs H σ' → σ'.length = σ.length → (∀ i, i ∉ js → σ'[i]? = σ[i]?) → Q σ' H) : RG X tg v σ H Q := h F Hs H σ v Q E hv q
end DL
namespace K53
open PySem PySem.Spec PyProof.Rows L2 DL Q
section
variable {P : Program} {w : World} {K : PySem.W.Frag} {mg : Str → Option Value} {base : Heap} {f : Addr} {fd : FuncData} {aR aC : Addr}
/-! Calls.__init__ -/
def spC (aC : Addr) : Sp := fun vs H Q _ => ∃ (x dx : Addr) (v : V) (Hs : Hp) (ch : Ch), vs = [.ref x, v] ∧ H x = some (.ins aC dx []) ∧ Hs x = none ∧ Same Hs H ∧ Dq Hs v (chL ch) ∧ ChsOk ch ∧ (ch.map (·.1)).Nodup ∧ ch.length ≤ 60 ∧
  ∀ Hs' H' p xs, Made aC x dx [("place_of", .ref p)] Hs H Hs' H' → H p = none → p ≠ x → Hs' p = none → H' p = some (.dT xs) → DcP Hs' (chD ch) xs → Q .non H'
theorem sc_cinit : FnScope ["self", "chosen", "one", "place"] ["self", "chosen"] (defScope sCallsInit) := ⟨rfl, rfl, rfl, by decide +kernel, rfl, by decide +kernel, by decide +kernel⟩
/-- the frame with the instance and its dict -/
def fr2 (F : Hp) (x p : Addr) (o u : HO) : Hp := upd (upd F p u) x o
theorem fr2_x {F : Hp} {x p : Addr} {o u : HO} : fr2 F x p o u x = some o := upd_same
theorem fr2_p {F : Hp} {x p : Addr} {o u : HO} (h : p ≠ x) : fr2 F x p o u p = some u := by
  unfold fr2
  rw [upd_ne h, upd_same]
theorem fr2_ne {F : Hp} {x p q : Addr} {o u : HO} (h : q ≠ x) (h2 : q ≠ p) : fr2 F x p o u q = F q := by
  unfold fr2
  rw [upd_ne h, upd_ne h2]
/-- no own slots: the frame may be changed with the heap -/
theorem er_frame {ρ : List Sl} {F Hs H : Hp} {σ : L2.St} {x p : Addr} {o o' u u' : HO} (hne : p ≠ x) (E : ER ρ (fr2 F x p o u) Hs H σ) (hx : Hs x = none) (hp : Hs p = none) (no : ∀ (i : Nat) (O : Ow), ρ[i]? ≠ some (.ow O)) : ER ρ (fr2 F x p o' u') Hs (upd (upd H p u') x o') σ := by
  refine ⟨fun q v e => ?_, fun q v e => ?_, E.n, E.v, fun i O h => absurd h (no i O), fun i j O O' q h => absurd h (no i O)⟩
  · have h1 : q ≠ x := fun z => by rw [z, hx] at e; cases e
    have h2 : q ≠ p := fun z => by rw [z, hp] at e; cases e
    rw [upd_ne h1, upd_ne h2]
    exact E.s q v e
  · by_cases h1 : q = x
    · rw [h1, fr2_x] at e
      rw [h1, upd_same]
      exact ⟨.inl hx, e⟩
    · by_cases h2 : q = p
      · rw [h2, fr2_p hne] at e
        rw [h2, upd_ne hne, upd_same]
        exact ⟨.inl hp, e⟩
      · rw [fr2_ne h1 h2] at e
        rw [upd_ne h1, upd_ne h2]
        exact E.f q v (by rw [fr2_ne h1 h2]; exact e)
theorem ok_cinit (B : Bi mg) (cC : Cls K aC) (nC : NoAttr K aC "place_of") (G : Fn P w K mg base 3 "is_choice" S_ischoice) (F : FnP K "__init__" "Calls.__init__" sCallsInit f fd) : FnOk P w K mg base CX0 4 f fd ["self", "chosen"] (spC aC) := by
  refine F.ok sc_cinit (fun vs H Q E h => ?_) (fun cdv A outer s H vs Q E hr h => ?_)
  · obtain ⟨x, dx, v, Hs, rs, rfl, _⟩ := h
    rfl
  · obtain ⟨x, dx, v, Hs, ch, rfl, hx, hxs, sm, hv, ok, nd, hln, q⟩ := h
    refine ⟨_, PSs.nox pss_RSs, ?_⟩
    have hn := sc_cinit.nd
    have E0 := er_init (N := ["self", "chosen", "one", "place"]) (x := x) (d := chL ch) (by decide) sm hv
    have hF := init_frame hx hxs
    generalize hF0 : (fun p => if (Hs p).isNone then H p else none) = F0 at E0 hF
    refine rs_skip (ρ := start0 ["self", "chosen", "one", "place"] [Cst (.ref x), D (chL ch)]) E0 (ET.to (EW.t (ew_or (et_not (et_val (e_isi B.isinstance (ee_v 1 rfl) (ee_bty B.list boot_list) (kit_lst _)))) fun _ => ew_or (t_gtI (e_lenL B.len (ee_v 1 rfl)) (ee_globI B.mchosen)) fun _ =>
      ew_or1 (et_not (et_val (e_all (bs := ch.map fun _ => true) rfl B.all (EE.d (EO.d (o_lc (own := [("one", 2)]) (ch.map fun _ => PyData.bool true) rfl hn (it_listD (ee_v 1 rfl)) (blkOk_by (N := ["self", "chosen", "one", "place"]) (sc := defScope sCallsInit) (by decide +kernel)) ?_ ?_ ?_)) ?_)))))) ?_) fun Hs1 H1 X1 => ?_
    · rw [List.length_map, List.length_map, List.length_map]
    · rw [List.length_map, List.length_map]
      omega
    · intro i T d hT hd
      rw [List.getElem?_map, List.getElem?_map] at hT
      rw [List.getElem?_map] at hd
      cases e : ch[i]? with
      | none => rw [e] at hT; cases hT
      | some p =>
        rw [e] at hT hd
        rw [← Option.some.inj hT, ← Option.some.inj hd]
        exact turn_keep (fun s H C cl fp => gg_name 2 hn rfl (.inl rfl)) fun s H C cl fp => ee_call G hr (ea_cons (ee_v 2 rfl) ea_nil) ⟨p, ok p (List.mem_of_getElem? e), rfl, rfl⟩
    · rw [List.map_map]
      rfl
    · have e1 : ((ch.map fun _ => true).all _root_.id) = true := List.all_eq_true.mpr fun x hx => by
        obtain ⟨y, _, rfl⟩ := List.mem_map.mp hx
        rfl
      rw [e1, List.length_map, decide_eq_false (by omega)]
      rfl
    · have E1 := E0.ext X1
      refine rs_fldO (ρ := start0 ["self", "chosen", "one", "place"] [Cst (.ref x), D (chL ch)]) E1 rfl hF cC nC (by decide) eo_dnew fun p u Hs2 H2 X2 g1 g2 g3 g4 => ?_
      obtain ⟨xs0, rfl, hd0⟩ := g4
      cases hd0
      have E2 := E1.ext X2
      have hx2 : Hs2 x = none := ((E2.f x _ hF).1).resolve_right (fun ⟨_, y⟩ => nomatch y)
      have hpx : p ≠ x := fun z => by
        rw [z] at g1
        rw [(E1.f x _ hF).2] at g1
        cases g1
      have noO : ∀ (s2 s3 : Ty) (i : Nat) (O : Ow), ([Sl.va (Cst (.ref x)), .va (D (chL ch)), .va s2, .va s3] : List Sl)[i]? ≠ some (.ow O) := fun s2 s3 i O => by
        rcases i with _ | _ | _ | _ | i <;> simp
      have X12 := X1.trans X2
      have hHp : H p = none := X1.free sm g1
      have hHsp : Hs p = none := sm.free hHp
      -- the frame behind self.place_of = {}
      have E3 : ER (start0 ["self", "chosen", "one", "place"] [Cst (.ref x), D (chL ch)]) (fr2 F0 x p (.ins aC dx [("place_of", .ref p)]) (.dT [])) Hs2 (upd H2 x (.ins aC dx (putF "place_of" (.ref p) []))) (L2.start ["self", "chosen", "one", "place"] [.ref x, v]) := by
        refine ⟨fun b o e => ?_, fun b o e => ?_, E2.n, E2.v, fun i O hi => ?_, fun i j O O' b hi => ?_⟩
        · have hb : b ≠ x := fun z => by rw [z, hx2] at e; cases e
          rw [upd_ne hb]
          exact E2.s b o e
        · by_cases h1 : b = x
          · rw [h1, fr2_x] at e
            rw [h1, upd_same]
            exact ⟨.inl hx2, e⟩
          · by_cases h2 : b = p
            · rw [h2, fr2_p hpx] at e
              rw [h2, upd_ne hpx]
              exact ⟨.inl g2, by rw [← e]; exact g3⟩
            · rw [fr2_ne h1 h2] at e
              rw [upd_ne h1]
              exact E2.f b o e
        · exact absurd hi (by rcases i with _ | _ | _ | _ | i <;> simp [start0])
        · exact absurd hi (by rcases i with _ | _ | _ | _ | i <;> simp [start0])
      refine RSs.cons (ps_for PassesOwn.never rfl pi_RI pg_RG pss_RSs) ?_
      refine it_listD (ρ := start0 ["self", "chosen", "one", "place"] [Cst (.ref x), D (chL ch)]) (ee_v 1 rfl) _ _ _ _ _ E3 fun J Hs3 H3 X3 Gd => ?_
      have hX3 : Same Hs2 Hs3 := X3.a
      refine ⟨fun i m σ' H' => m = ch.length - i ∧ i ≤ ch.length ∧ ∃ (s2 s3 : Sl) (Hs' : Hp) (xs : List (List L2.Key × V)), (∀ O, s2 ≠ .ow O) ∧ (∀ O, s3 ≠ .ow O) ∧ Same Hs3 Hs' ∧ DcP Hs' (chD (ch.take i)) xs ∧ ER [.va (Cst (.ref x)), .va (D (chL ch)), s2, s3] (fr2 F0 x p (.ins aC dx [("place_of", .ref p)]) (.dT xs)) Hs' H' σ',
        ⟨_, rfl, Nat.zero_le _, .un, .un, Hs3, [], (fun O z => nomatch z), (fun O z => nomatch z), Same.refl _, .nil, E3.ext X3⟩, ?_⟩
      rintro i m σ' H' ⟨rfl, hil, s2, s3, Hs', xs, n2, n3, s', hd', E'⟩
      have hx' : Hs' x = none := ((E'.f x _ fr2_x).1).resolve_right (fun ⟨_, y⟩ => nomatch y)
      have hp' : Hs' p = none := ((E'.f p _ (fr2_p hpx)).1).resolve_right (fun ⟨_, y⟩ => nomatch y)
      have hTl : ((ch.map chPair).map D).length = ch.length := by rw [List.length_map, List.length_map]
      have good := Gd Hs' H' s' E'.s i (by rw [hTl]; exact hil)
      by_cases hlt : i < ch.length
      · obtain ⟨⟨hd, pl⟩, hi⟩ : ∃ c, ch[i]? = some c := ⟨_, List.getElem?_eq_getElem hlt⟩
        obtain ⟨go, yld⟩ := good.1 (D (chPair (hd, pl))) (by rw [List.getElem?_map, List.getElem?_map, hi]; rfl)
        refine .inr ⟨go, fun σ2 H2' => ∃ (s2 s3 : Sl) (Hs2' : Hp) (xs : List (List L2.Key × V)), (∀ O, s2 ≠ .ow O) ∧ (∀ O, s3 ≠ .ow O) ∧ Same Hs3 Hs2' ∧ DcP Hs2' (chD (ch.take (i + 1))) xs ∧ ER [.va (Cst (.ref x)), .va (D (chL ch)), s2, s3] (fr2 F0 x p (.ins aC dx [("place_of", .ref p)]) (.dT xs)) Hs2' H2' σ2,
          fun σ2 H2' h => ⟨_, by omega, rfl, by omega, h⟩, fun vv H2' y => ?_⟩
        obtain ⟨Hs4, X4, hvv⟩ := yld vv H2' y
        refine GG.run (gg_pair (d1 := hdD hd) (d2 := .int pl) rfl (gg_name 2 hn rfl (.inl rfl)) (gg_name 3 hn rfl (.inl rfl))) (E'.ext X4) hvv fun σ3 E5 _ _ => ?_
        have hnm : hd ∉ (ch.take i).map (·.1) := fun z => by
          obtain ⟨j, hj⟩ := List.mem_iff_getElem?.mp z
          rw [List.getElem?_map, List.getElem?_take] at hj
          split at hj
          · have h1 : (ch.map (·.1))[j]? = some hd := by rw [List.getElem?_map]; exact hj
            have h2 : (ch.map (·.1))[i]? = some hd := by rw [List.getElem?_map, hi]; rfl
            have := nodup_inj nd h1 h2
            omega
          · cases hj
        have hkeys : (chD (ch.take i)).map (·.1) = (ch.take i).map (·.1) := by
          unfold chD
          rw [List.map_map]
          rfl
        have hgn : getH (chD (ch.take i)) hd = none := getH_none (by rw [hkeys]; exact hnm)
        have hd5 := DcP.mono X4.a hd'
        have vN : ∀ {Hs6 H6 : Hp}, ER ([Sl.va (Cst (.ref x)), .va (D (chL ch)), s2, s3].set 2 (.va (D (hdD hd))) |>.set 3 (.va (D (.int pl)))) (fr2 F0 x p (.ins aC dx [("place_of", .ref p)]) (.dT xs)) Hs6 H6 σ3 → σ3[0]? = some (some (.ref x)) ∧ H6 x = some (.ins aC dx [("place_of", .ref p)]) ∧ H6 p = some (.dT xs) := fun E6 => by
          obtain ⟨v0, h1, h2⟩ := E6.v 0 (Cst (.ref x)) rfl
          have h3 : v0 = .ref x := h2
          rw [h3] at h1
          exact ⟨h1, (E6.f x _ fr2_x).2, (E6.f p _ (fr2_p hpx)).2⟩
        -- if one in self.place_of: raise
        refine RSs.cons (ps_if (pt_cmp (pc_din (room1 hr) (pe_RE) (pe_fld (pe_var (i := 0) rfl (.inl rfl) (by decide) (by decide)) rfl)) rfl) pss_RSs pss_nil) ?_
        refine EE.run (ee_v (T := D (hdD hd)) 2 rfl) E5 fun kv Hs5 H5 X5 hkv => ?_
        have E6 := E5.ext X5
        obtain ⟨i1, i2, i3⟩ := vN E6
        obtain ⟨kb, rfl, hkb⟩ := dq_hd hkv
        have hd6 := DcP.mono X5.a hd5
        refine ⟨.ref x, i1, x, aC, dx, _, .ref p, rfl, i2, cC, nC, rfl, ?_⟩
        refine ⟨p, _, rfl, dget_of i3 (X5.b _ _ hkb), ?_⟩
        rw [dcp_some hd6, hgn]
        refine ⟨false, rfl, iteF ?_⟩
        -- self.place_of[one] = place
        refine RSs.cons (ps_dput (room1 hr) (pe_fld (pe_var (i := 0) rfl (.inl rfl) (by decide) (by decide)) rfl) pe_RE pe_RE rfl) ?_
        refine EE.run (ee_v (T := D (.int pl)) 3 rfl) E6 fun pv Hs6 H6 X6 hpv => ?_
        have E7 := E6.ext X6
        obtain ⟨j1, j2, j3⟩ := vN E7
        refine ⟨.ref x, j1, x, aC, dx, _, .ref p, rfl, j2, cC, nC, rfl, ?_⟩
        refine EE.run (ee_v (T := D (hdD hd)) 2 rfl) E7 fun kv2 Hs7 H7 X7 hkv2 => ?_
        have E8 := E7.ext X7
        obtain ⟨l1, l2, l3⟩ := vN E8
        obtain ⟨kb2, rfl, hkb2⟩ := dq_hd hkv2
        have hd8 := DcP.mono (X6.a.trans X7.a) hd6
        have hlx : xs.length < sizeLine := by
          rw [← Paired.length hd8]
          unfold chD
          rw [List.length_map, List.length_take]
          exact Nat.lt_of_le_of_lt (show min i ch.length ≤ 60 by omega) (by decide)
        refine ⟨p, _, rfl, DPut.t l3 (X7.b _ _ hkb2) hlx, ?_⟩
        refine RSs.of pss_nil ?_
        have hx8 : Hs7 x = none := ((E8.f x _ fr2_x).1).resolve_right (fun ⟨_, y⟩ => nomatch y)
        have hp8 : Hs7 p = none := ((E8.f p _ (fr2_p hpx)).1).resolve_right (fun ⟨_, y⟩ => nomatch y)
        have E9 := er_frame (o' := .ins aC dx [("place_of", .ref p)]) (u' := .dT (putK xs (DL.hk hd) pv)) hpx E8 hx8 hp8 (fun i O => by rcases i with _ | _ | _ | _ | i <;> simp)
        have eH : upd (upd H7 p (.dT (putK xs (DL.hk hd) pv))) x (.ins aC dx [("place_of", .ref p)]) = upd H7 p (.dT (putK xs (DL.hk hd) pv)) := by
          funext b
          by_cases hb : b = x
          · rw [hb, upd_same, upd_ne (Ne.symm hpx), l2]
          · rw [upd_ne hb]
        rw [eH] at E9
        refine ⟨.va (D (hdD hd)), .va (D (.int pl)), Hs7, _, (fun O z => nomatch z), (fun O z => nomatch z), (((s'.trans X4.a).trans X5.a).trans X6.a).trans X7.a, ?_, E9⟩
        have hput := DcP.put hd8 hd (T := D (.int pl)) ((D (.int pl)).mono X7.a hpv)
        rw [putH_new (by rw [hkeys]; exact hnm)] at hput
        rw [List.take_succ, hi]
        unfold chD at hput ⊢
        rw [List.map_append]
        exact hput
      · have ei : i = ch.length := by omega
        subst ei
        refine .inl ⟨good.2 hTl.symm, RSs.of pss_nil ?_⟩
        rw [List.take_length] at hd'
        have hx9 := (E'.f x _ fr2_x).2
        have hp9 := (E'.f p _ (fr2_p hpx)).2
        have sAll : Same Hs Hs' := ((X12.a.trans hX3).trans s')
        refine q Hs' H' p xs ⟨sAll, E'.s, fun b o e g z => ?_, hx', hx9⟩ hHp hpx hp' hp9 hd'
        have hbp : b ≠ p := ne_of_none e hHp
        have := E'.f b o (by
          rw [fr2_ne z hbp, ← hF0]
          show (if (Hs b).isNone then H b else none) = some o
          rw [g]
          exact e)
        exact ⟨this.2, this.1⟩
end
end K53

set_option Elab.async false
set_option linter.all false
set_option maxRecDepth 100000
set_option maxHeartbeats 4000000
namespace DL
open PySem PySem.Spec PyProof.Rows L2 Q
section
variable {X : Cx} {ρ : List Sl} {rest : List Stmt} {E : En} {x m : Str} {j : Nat} {p p2 pos pos' : Pos} {C : Addr} {bm : List Value} {B newId initId : String}
theorem bb_raise (hc : X.calm = true) (F : ExcBaseFacts B newId initId bm) (q : PySem.W.excIn X.K C bm newId = true) (gC : X.mg x = some (.ref C)) (kC : PySem.W.keepIn X.K (.ref C) = true) (r : Raises X (.ref C)) (hE : E.er (.ref C)) (hg : Gl X x := by rfl) (hdb : (x == ("__debug__" : Str)) = false := by decide) :
    BB X ρ (.Raise (some (.Call (.Name x p) [.Constant (.str m) j p2] [] pos)) none pos' :: rest) E := fun W F0 Hs H σ D tk ER1 g => by
  refine RSs.cons (ps_raise hc tk (pmk_own F q gC kC r hg hdb)) ?_
  exact g.er _ Hs H σ hE (Same.refl _) ER1.s ER1.f
end
/-- promises that may let an exception out -/
def spE (S : List Ty → En → Prop) : Sp := fun vs H Q Ex => ∃ (Ts : List Ty) (e : En) (Hs : Hp), S Ts e ∧ Same Hs H ∧ Tys Hs Ts vs ∧ (∀ v Hs' H', Ext Hs H Hs' H' → e.rt.p Hs' v → Q v H') ∧ ∀ c Hs' H', Ext Hs H Hs' H' → e.er c → Ex c none H'
section
variable {P : Program} {w : World} {K : PySem.W.Frag} {mg : Str → Option Value} {base : Heap} {x qual : Str} {params : Arguments} {body : List Stmt} {scope : Scope} {f : Addr} {fd : FuncData} {N ps : List Str} {k : Nat} {S : List Ty → En → Prop}
abbrev cxE (P : Program) (w : World) (K : PySem.W.Frag) (mg : Str → Option Value) (base : Heap) (N : List Str) (qual : Str) (scope : Scope) (f : Addr) (cd : Value) (A : Around) (outer : List Env) (s : Shared) (H : Hp) (E : XK) : Cx := cxOf (L2.CX P w) P w K mg base N qual scope f cd A outer s H E
theorem fn_okE (F : FunD K x qual params body scope [] [] f fd) (Sc : FnScope N ps scope) (ar : ∀ Ts e, S Ts e → Ts.length = ps.length) (hS : ∀ Ts e, S Ts e → e.ro = (fun _ => False) ∧ e.bk = (fun _ => False) ∧ e.ct = (fun _ => False) ∧ e.nx = fun _ => False)
    (hb : ∀ (cdv : Value) (A : Around) (outer : List Env) (s : Shared) (H : Hp) (E : XK), Room k (cxE P w K mg base N qual scope f cdv A outer s H E).A → ∀ Ts e, S Ts e → BB (cxE P w K mg base N qual scope f cdv A outer s H E) (start0 N Ts) body e) : FnOk P w K mg base (L2.CX P w) (k + 1) f fd ps (spE S) := by
  refine F.ok Sc (fun vs H Q E h => ?_) (fun cdv A outer s H vs Q E hr h => ?_)
  · obtain ⟨Ts, e, Hs, hS, _, ht, _⟩ := h
    rw [← ht.length]
    exact ar Ts e hS
  · obtain ⟨Ts, e, Hs, hSS, sm, ht, q1, q2⟩ := h
    refine ⟨_, pss_RSs, ?_⟩
    obtain ⟨z1, z2, z3, z4⟩ := hS _ _ hSS
    refine hb cdv A outer s H E hr Ts e hSS (fun cls d _ H' => E cls d H') _ Hs H _ _ (takes_of rfl rfl rfl rfl) (er_start sm ht) ⟨fun ρ' Hs' H' σ' h1 h2 h3 => ?_, fun v Hs' H' h1 h2 h3 h4 => q1 _ _ _ (ext_of h1 h2 h3) h4, fun _ _ _ _ z => ?_, fun _ _ _ _ z => ?_, fun c Hs' H' σ' h h1 h2 h3 => q2 _ _ _ (ext_of h1 h2 h3) h, fun O' p u Hs' H' z => ?_⟩
    · rw [z4] at h1; exact h1.elim
    · rw [z2] at z; exact z.elim
    · rw [z3] at z; exact z.elim
    · rw [z1] at z; exact z.elim
structure FnE (P : Program) (w : World) (K : PySem.W.Frag) (mg : Str → Option Value) (base : Heap) (k : Nat) (x : Str) (S : List Ty → En → Prop) : Prop where
  ex : ∃ (f : Addr) (fd : FuncData) (ps : List Str), FnOk P w K mg base (L2.CX P w) k f fd ps (spE S) ∧ mg x = some (.ref f) ∧ PySem.W.keepIn K (.ref f) = true ∧ Binds K fd ps []
/-- a call that lets nothing out -/
theorem ee_callE {X : Cx} {ρ : List Sl} {e : Expr} {es : List Expr} {T : Ty} {Ts : List Ty} {p pos : Pos} {en : En} (G : FnE X.prog X.w X.K X.mg X.base k x S) (hr : Room k X.A) (ha : EA X ρ (e :: es) Ts) (hS : S Ts en) (hT : ∀ H v, en.rt.p H v → T.p H v) (hno : ∀ c, ¬ en.er c) (hg : Gl X x := by rfl) (hdb : (x == ("__debug__" : Str)) = false := by decide)
    (he : starEach (e :: es) X.env = (false, eval e X.env) :: starEach es X.env := by rfl) (hpl : (backTo pos (starEach es X.env)).any (·.1) = false := by rfl) : EE X ρ (.Call (.Name x p) (e :: es) [] pos) T := fun F Hs H σ Q E q => by
  obtain ⟨f, fd, ps, G, hm, hk, hb⟩ := G.ex
  refine RE.of (pe_call (E := E0) G hr hg hm hk hb .nil passL pa_RA hdb he hpl) ?_
  refine ha F Hs H σ _ E fun vs Hs1 H1 X1 hvs => ?_
  show spE S (vs ++ []) H1 Q _
  rw [List.append_nil]
  exact ⟨Ts, en, Hs1, hS, X1.b, hvs, fun v Hs2 H2 X2 hv => q v _ _ (X1.trans X2) (hT _ _ hv), fun c _ _ _ h => absurd h (hno c)⟩
/-- C(e): a new instance -/
structure MkI (P : Program) (w : World) (K : PySem.W.Frag) (mg : Str → Option Value) (base : Heap) (k : Nat) (x : Str) (C : Addr) (sp : Sp) : Prop where
  ex : ∃ (f : Addr) (fd : FuncData) (ps : List Str), Mk K C f ∧ FnOk P w K mg base CX0 k f fd ps sp ∧ mg x = some (.ref C) ∧ Binds K fd ps []
end
end DL
namespace Q
open PySem DL
theorem choice_aux : ∀ (hs : List Hd) (found : List Ch) (pre : List Hd), (∀ c ∈ found, c.map (·.1) = pre ∧ ∀ p ∈ c, 0 ≤ p.2 ∧ p.2 < p.1.2) → ∀ c ∈ hs.foldl chStep found, c.map (·.1) = pre ++ hs ∧ ∀ p ∈ c, 0 ≤ p.2 ∧ p.2 < p.1.2
  | [], _, pre, h => by simpa using h
  | x :: hs, found, pre, h => fun c hc => by
    rw [List.foldl_cons] at hc
    have := choice_aux hs (chStep found x) (pre ++ [x]) (fun c' hc' => by
      unfold chStep at hc'
      obtain ⟨c0, h0, hc0⟩ := List.mem_flatMap.mp hc'
      obtain ⟨p, hp, rfl⟩ := List.mem_map.mp hc0
      obtain ⟨k1, k2⟩ := h c0 h0
      have hp' := List.mem_range.mp hp
      refine ⟨by rw [List.map_append, k1]; rfl, fun q hq => ?_⟩
      rcases List.mem_append.mp hq with z | z
      · exact k2 q z
      · rw [List.mem_singleton.mp z]
        show (0 : Int) ≤ ((p : Nat) : Int) ∧ ((p : Nat) : Int) < x.2
        omega) c hc
    rw [List.append_assoc] at this
    exact this
theorem choice_keys {hs : List Hd} {c : Ch} (h : c ∈ choices hs) : c.map (·.1) = hs := by
  have := (choice_aux hs [[]] [] (fun c hc => by rw [List.mem_singleton.mp hc]; exact ⟨rfl, fun p hp => nomatch hp⟩) c h).1
  simpa using this
theorem choice_vals {hs : List Hd} {c : Ch} (h : c ∈ choices hs) : ∀ p ∈ c, 0 ≤ p.2 ∧ p.2 < p.1.2 :=
  (choice_aux hs [[]] [] (fun c hc => by rw [List.mem_singleton.mp hc]; exact ⟨rfl, fun p hp => nomatch hp⟩) c h).2
theorem count_madeH {rs : Rl} (ok : RlOk rs) {h : Hd} (g : h ∈ madeH rs) : 0 ≤ h.2 ∧ h.2 ≤ 9 := by
  obtain ⟨p, hp, rfl⟩ := mem_madeH.mp g
  obtain ⟨s, as, e, _, hl, _⟩ := (ok.ok p hp).tl.app_ (ok.ok p hp).al
  rw [e]
  show (0 : Int) ≤ ((as.length : Nat) : Int) ∧ ((as.length : Nat) : Int) ≤ 9
  omega
end Q
namespace K53
open PySem PySem.Spec PyProof.Rows L2 DL Q
noncomputable def inRing (rs : Rl) (h : Hd) : Bool := rchB (waysOf (sides rs)) h h && decide (0 < h.2)
noncomputable def ringH (rs : Rl) : List Hd := (madeH rs).filter (inRing rs)
noncomputable def pickCh (rs : Rl) : Option Ch := (choices (ringH rs)).find? fun ch => letsB ch rs
def FoundT (aC : Addr) : Option Ch → Ty
  | none => D .none
  | some ch => CallsT aC ch
theorem ring_ok {rs : Rl} (ok : RlOk rs) {h : Hd} (g : h ∈ ringH rs) : NameOk h.1 ∧ 1 ≤ h.2 ∧ h.2 ≤ 9 := by
  obtain ⟨g1, g2⟩ := List.mem_filter.mp g
  unfold inRing at g2
  rw [Bool.and_eq_true, decide_eq_true_eq] at g2
  have := count_madeH ok g1
  exact ⟨name_madeH ok g1, by omega, this.2⟩
theorem len_ring {rs : Rl} (ok : RlOk rs) : (ringH rs).length ≤ 40 := by
  have h1 : (ringH rs).length ≤ (madeH rs).length := List.length_filter_le _ _
  have h2 := len_madeH rs
  have h3 := ok.ln
  omega
theorem nodup_ring (rs : Rl) : (ringH rs).Nodup := List.Nodup.sublist List.filter_sublist (nodup_madeH rs)
theorem choice_ok {rs : Rl} (ok : RlOk rs) {ch : Ch} (h : ch ∈ choices (ringH rs)) : ChsOk ch ∧ (ch.map (·.1)).Nodup ∧ ch.length ≤ 60 := by
  have hk := choice_keys h
  refine ⟨fun p hp => ?_, by rw [hk]; exact nodup_ring rs, ?_⟩
  · have hm : p.1 ∈ ringH rs := by rw [← hk]; exact List.mem_map.mpr ⟨p, hp, rfl⟩
    have hr := ring_ok ok hm
    have hv := choice_vals h p hp
    exact ⟨hr.1, by omega, hr.2.2, hv.1, hv.2⟩
  · rw [len_choice h]
    have := len_ring ok
    omega
section
variable {P : Program} {w : World} {K : PySem.W.Frag} {mg : Str → Option Value} {base : Heap} {f : Addr} {fd : FuncData} {aR aC aT : Addr}
/-! making -/
theorem ee_mkC {X : Cx} {ρ : List Sl} {e : Expr} {ch : Ch} {p pos : Pos} (M : MkI X.prog X.w X.K X.mg X.base 4 "Calls" aC (spC aC)) (hr : Room 5 X.A) (ha : EE X ρ e (D (chL ch))) (ok : ChsOk ch) (nd : (ch.map (·.1)).Nodup) (hl : ch.length ≤ 60)
    (hg : Gl X "Calls" := by rfl) (he : starEach [e] X.env = (false, eval e X.env) :: starEach [] X.env := by rfl) : EE X ρ (.Call (.Name "Calls" p) [e] [] pos) (CallsT aC ch) := by
  obtain ⟨f, fd, ps, M, F, hm, hb⟩ := M.ex
  refine ee_make M F hr hm hb (ea_cons ha ea_nil he) (fun Hs H vs Q s h q x dx h1 h2 h3 => ?_) hg (by decide) he
  obtain ⟨v, rfl, hv⟩ := tys1 h
  have sx : Hs x = none := s.free h1
  have sd : Hs dx = none := s.free h2
  refine ⟨x, dx, v, Hs, ch, rfl, upd_same, sx, fun a o e => ?_, hv, ok, nd, hl, fun Hs' H' p xs m g1 g2 g3 g4 g5 => ⟨rfl, ?_⟩⟩
  · have n1 : a ≠ x := fun z => by rw [z, sx] at e; cases e
    have n2 : a ≠ dx := fun z => by rw [z, sd] at e; cases e
    rw [upd_ne n1, upd_ne n2]
    exact s a o e
  · have hp0 : H p = none := by
      by_cases z : p = dx
      · rw [z]; exact h2
      · rw [upd_ne g2, upd_ne z] at g1; exact g1
    have X0 := m.ext h1 h2
    have nx' : (upd Hs' x (.ins aC dx [("place_of", .ref p)])) p = none := by rw [upd_ne g2]; exact g3
    have X1 := X0.fix hp0 nx' g4
    have m1 : Same Hs' (upd (upd Hs' x (.ins aC dx [("place_of", .ref p)])) p (.dT xs)) := ((Same.refl _).newU m.n).trans ((Same.refl _).newU nx')
    exact q _ _ _ X1 ⟨x, dx, p, xs, rfl, by rw [upd_ne (Ne.symm g2), upd_same], upd_same, DcP.mono m1 g5⟩
theorem ee_mkR {X : Cx} {ρ : List Sl} {e : Expr} {rs : Rl} {p pos : Pos} (M : MkI X.prog X.w X.K X.mg X.base 13 "Rules" aR (spR aR)) (hr : Room 14 X.A) (ha : EE X ρ e (D (.list (rs.map ruleD)))) (ok : RlOk rs)
    (hg : Gl X "Rules" := by rfl) (he : starEach [e] X.env = (false, eval e X.env) :: starEach [] X.env := by rfl) : EE X ρ (.Call (.Name "Rules" p) [e] [] pos) (RulesT aR rs) := by
  obtain ⟨f, fd, ps, M, F, hm, hb⟩ := M.ex
  refine ee_make M F hr hm hb (ea_cons ha ea_nil he) (fun Hs H vs Q s h q x dx h1 h2 h3 => ?_) hg (by decide) he
  obtain ⟨v, rfl, hv⟩ := tys1 h
  have sx : Hs x = none := s.free h1
  have sd : Hs dx = none := s.free h2
  refine ⟨x, dx, v, Hs, rs, rfl, upd_same, sx, fun a o e => ?_, hv, ok, fun Hs' H' p xs m g1 g2 g3 g4 g5 => ⟨rfl, ?_⟩⟩
  · have n1 : a ≠ x := fun z => by rw [z, sx] at e; cases e
    have n2 : a ≠ dx := fun z => by rw [z, sd] at e; cases e
    rw [upd_ne n1, upd_ne n2]
    exact s a o e
  · have hp0 : H p = none := by
      by_cases z : p = dx
      · rw [z]; exact h2
      · rw [upd_ne g2, upd_ne z] at g1; exact g1
    have X0 := m.ext h1 h2
    have nx' : (upd Hs' x (.ins aR dx [("kept", .ref p)])) p = none := by rw [upd_ne g2]; exact g3
    have X1 := X0.fix hp0 nx' g4
    have m1 : Same Hs' (upd (upd Hs' x (.ins aR dx [("kept", .ref p)])) p (.lst xs)) := ((Same.refl _).newU m.n).trans ((Same.refl _).newU nx')
    exact q _ _ _ X1 ⟨x, dx, p, xs, rfl, by rw [upd_ne (Ne.symm g2), upd_same], upd_same, dqs_mono m1 _ _ g5⟩
/-! calls_of -/
noncomputable def RetT (aC : Addr) (rs : Rl) : Ty := ⟨fun H v => cprod (ringH rs) ≤ 3000 ∧ (FoundT aC (pickCh rs)).p H v, fun e ⟨h1, h2⟩ => ⟨h1, Ty.mono _ e h2⟩⟩
noncomputable def enC (aC aT : Addr) (rs : Rl) : En := { nx := fun _ => False, rt := RetT aC rs, er := fun c => 3000 < cprod (ringH rs) ∧ c = .ref aT }
def S_callsof (aR aC aT : Addr) : List Ty → En → Prop := fun Ts e => ∃ rs : Rl, RlOk rs ∧ Ts = [RulesT aR rs] ∧ e = enC aC aT rs
/-- the class TooMany -/
structure ExT (K : PySem.W.Frag) (mg : Str → Option Value) (x : Str) (C : Addr) : Prop where
  q : PySem.W.excIn K C He.veBase "ValueError.__new__" = true
  g : mg x = some (.ref C)
  k : PySem.W.keepIn K (.ref C) = true
  s : PySem.W.subIn K (.ref C) (.type "BaseException") = some true
  t : PySem.W.typeIn K (.ref C) = some (.type "type")
theorem sc_callsof : FnScope ["rules", "one", "heads", "many", "chosen", "paper", "led"] ["rules"] (defScope sCallsOf) := ⟨rfl, rfl, rfl, by decide +kernel, rfl, by decide +kernel, by decide +kernel⟩
theorem ring_os (rs : Rl) : ((madeH rs).map fun h => if inRing rs h then some (hdD h) else none).filterMap _root_.id = (ringH rs).map hdD := by
  unfold ringH
  generalize madeH rs = hs
  induction hs with
  | nil => rfl
  | cons h hs ih =>
    rw [List.map_cons, List.filterMap_cons]
    by_cases e : inRing rs h = true
    · rw [List.filter_cons_of_pos e, List.map_cons, ← ih]
      simp [e]
    · rw [List.filter_cons_of_neg e, ← ih]
      simp [e]
theorem ok_callsof (B : Bi mg) (T : ExT K mg "TooMany" aT) (G1 : FnO P w K mg base 12 "leads" (S_leads aR)) (G2 : Fn P w K mg base 1 "choices_of" S_choices) (MC : MkI P w K mg base 4 "Calls" aC (spC aC)) (ML : Me P w K mg base 13 aC "lets" (S_lets aR aC))
    (F : FnP K "calls_of" "calls_of" sCallsOf f fd) : FnOk P w K mg base (L2.CX P w) 14 f fd ["rules"] (spE (S_callsof aR aC aT)) := by
  refine fn_okE F sc_callsof (by rintro _ _ ⟨_, _, rfl, rfl⟩; rfl) (by rintro _ _ ⟨_, _, rfl, rfl⟩; exact ⟨rfl, rfl, rfl, rfl⟩) ?_
  rintro cdv A outer s H E hr _ _ ⟨rs, ok, rfl, rfl⟩
  have h1 : Room 1 _ := hr.mono (by decide)
  have h5 : Room 5 _ := hr.mono (by decide)
  have h12 : Room 12 _ := hr.mono (by decide)
  have hn := sc_callsof.nd
  have hlm := len_madeH rs
  have hln := ok.ln
  have hlr := len_ring ok
  refine bb_setLcO 2 [("one", 1), ("led", 6)] ((madeH rs).map fun h => if inRing rs h then some (hdD h) else none) ((ringH rs).map hdD) rfl hn rfl rfl (it_itemsO (eo_call G1 h12 (ea_cons (ee_v 0 rfl) ea_nil) ⟨rs, ok, rfl, rfl⟩)) (blkOk_by (N := ["rules", "one", "heads", "many", "chosen", "paper", "led"]) (sc := defScope sCallsOf) (by decide +kernel)) ?_ ?_ (ring_os rs) (by show 2 < 7; decide) ?_ ?_
  · rw [List.length_map, List.length_map, List.length_map]
  · rw [List.length_map, List.length_map]
    omega
  · intro i T o hT ho
    rw [List.getElem?_map, List.getElem?_map] at hT
    rw [List.getElem?_map] at ho
    cases e : (madeH rs)[i]? with
    | none => rw [e] at hT; cases hT
    | some h =>
      rw [e] at hT ho
      rw [← Option.some.inj hT, ← Option.some.inj ho]
      refine turn_if (q := inRing rs h) (fun s H C cl fp => gg_two rfl (gg_name 1 hn rfl (.inl rfl)) (gg_name 6 hn rfl (.inl rfl))) (fun s H C cl fp => ?_) (fun e => if_neg (by rw [e]; exact Bool.false_ne_true)) (fun e => ⟨hdD h, if_pos e, fun s H C cl fp => ee_v 1 rfl⟩)
      exact EW.t (ew_and (t_inS h1 (ee_v 1 rfl) (ee_v 6 rfl) fun ks hk => rchP_dec ks hk) fun _ => ew_and1 (t_gtI (e_ixT (ee_v 1 rfl) ee_int (at_ 1 rfl rfl)) ee_int))
  · refine bb_set 3 hn rfl (.inl rfl) ee_int ?_
    refine bb_for (fun i ρ => ∃ a : Sl, ρ = [.va (RulesT aR rs), a, .va (D (.list ((ringH rs).map hdD))), .va (D (.int ((cprod ((ringH rs).take i) : Nat) : Int))), .un, .un, .un]) (passes_of rfl) rfl (it_listD (ee_v 2 rfl)) ⟨_, rfl⟩ ?_ ?_
    · rintro i T ρ' hT ⟨a, rfl⟩
      rw [List.getElem?_map, List.getElem?_map] at hT
      cases hi : (ringH rs)[i]? with
      | none => rw [hi] at hT; cases hT
      | some h =>
        rw [hi] at hT
        rw [← Option.some.inj hT]
        have hh := ring_ok ok (List.mem_of_getElem? hi)
        refine ⟨_, _, gg_name 1 hn rfl (.inl rfl), ?_⟩
        refine bb_aug 3 iop_mul hn rfl (.inl rfl) rfl (e_ixT (ee_v 1 rfl) ee_int (at_ 1 rfl rfl)) (r2_intC (C := CMul) (.inr ⟨by omega, by omega⟩)) (bb_nil ⟨.va (D (hdD h)), ?_⟩)
        rw [List.take_succ, hi]
        show _ = [_, _, _, Sl.va (D (.int ((cprod ((ringH rs).take i ++ [h]) : Nat) : Int))), _, _, _]
        rw [cprod_snoc]
        have e : (((cprod ((ringH rs).take i) * h.2.toNat : Nat)) : Int) = ((cprod ((ringH rs).take i) : Nat) : Int) * h.2 := by
          rw [Int.natCast_mul, Int.toNat_of_nonneg (by omega)]
        rw [e]
        rfl
    · rintro ρ' ⟨a, rfl⟩
      rw [List.length_map, List.length_map, List.take_length]
      refine bb_if0 (t_gtI (ee_v 3 rfl) (ee_globI B.mchoices)) (fun e => ?_) (fun e => ?_)
      · exact bb_raise rfl PySem.F.excBase_ValueError T.q T.g T.k (raises_own T.s T.t) ⟨by have := of_decide_eq_true e; omega, rfl⟩
      · have hcp : cprod (ringH rs) ≤ 3000 := by
          have := of_decide_eq_false e
          omega
        refine bb_for (fun i ρ => (∀ c ∈ (choices (ringH rs)).take i, letsB c rs = false) ∧ ∃ a b c d : Sl, ρ = [.va (RulesT aR rs), a, .va (D (.list ((ringH rs).map hdD))), b, c, d, .un]) (passes_of rfl) rfl
          (it_listD (ee_call G2 h1 (ea_cons (ee_v 2 rfl) ea_nil) ⟨ringH rs, fun h hh => ⟨(ring_ok ok hh).2.1, by have := (ring_ok ok hh).2.2; omega⟩, hcp, by omega, rfl, rfl⟩)) ⟨(fun c hc => nomatch hc), _, _, _, _, rfl⟩ ?_ ?_
        · rintro i T ρ' hT ⟨hno, a, b, c, d, rfl⟩
          rw [List.getElem?_map, List.getElem?_map] at hT
          cases hi : (choices (ringH rs))[i]? with
          | none => rw [hi] at hT; cases hT
          | some ch =>
            rw [hi] at hT
            rw [← Option.some.inj hT]
            have hm := List.mem_of_getElem? hi
            obtain ⟨c1, c2, c3⟩ := choice_ok ok hm
            have htk : (choices (ringH rs)).take (i + 1) = (choices (ringH rs)).take i ++ [ch] := by rw [List.take_succ, hi]; rfl
            refine ⟨_, _, gg_name 4 hn rfl (.inl rfl), ?_⟩
            refine bb_set 5 hn rfl (.inl rfl) (ee_mkC MC h5 (ee_v 4 rfl) c1 c2 c3) ?_
            refine bb_if0 (et_val (ee_meth ML hr (ee_v 5 rfl) (ins_calls rfl) (ea_cons (ee_v 0 rfl) ea_nil) ⟨ch, rs, c1, ok, rfl, rfl⟩)) (fun hl => ?_) (fun hl => ?_)
            · refine bb_ret (EE.le (ee_v (T := CallsT aC ch) 5 rfl) fun H v hv => ⟨hcp, ?_⟩)
              have hp : pickCh rs = some ch := by
                unfold pickCh
                rw [← List.take_append_drop (i + 1) (choices (ringH rs)), htk, List.find?_append, List.find?_append, List.find?_eq_none.mpr (fun c hc => by rw [hno c hc]; exact Bool.false_ne_true)]
                simp [hl]
              rw [hp]
              exact hv
            · refine bb_nil ⟨fun c' hc' => ?_, a, b, .va (D (chL ch)), .va (CallsT aC ch), rfl⟩
              rw [htk] at hc'
              rcases List.mem_append.mp hc' with z | z
              · exact hno c' z
              · rw [List.mem_singleton.mp z]
                exact hl
        · rintro ρ' ⟨hno, a, b, c, d, rfl⟩
          rw [List.length_map, List.length_map, List.take_length] at hno
          refine bb_ret (EE.le ee_non fun H v hv => ⟨hcp, ?_⟩)
          have hp : pickCh rs = none := by
            unfold pickCh
            exact List.find?_eq_none.mpr fun c hc => by rw [hno c hc]; exact Bool.false_ne_true
          rw [hp]
          exact hv
end
end K53

set_option Elab.async false
set_option linter.all false
set_option maxRecDepth 100000
set_option maxHeartbeats 4000000
namespace Q
open PySem DL
theorem lg {x : Int} {k : Nat} (hk : 0 < k) (h : x.natAbs < 2 ^ k) : x.natAbs.log2 < k := by
  by_cases z : x.natAbs = 0
  · rw [z]
    exact Nat.lt_of_le_of_lt (by decide) hk
  · exact (Nat.log2_lt z).mpr h
theorem lgI {x : Int} {k : Nat} (hk : 0 < k) (h0 : 0 ≤ x) (h : x < (2 ^ k : Nat)) : x.natAbs.log2 < k := lg hk (by omega)
def bigI : Int := 10 ^ 40 + 121
def spreadI (cell k : Int) : Int := (cell % bigI * 31415926535897932384626433832795 + (k * k + 3 * k + 7) * 2718281828459045235360287471) % bigI
def mixM : Int := 10 ^ 30 + 57
def mixH (n k : Int) : Int := (n * 69621 + (k + 1) * 1000003) % mixM
def mixedI (n k : Int) : Int := mixH n k * mixH n k % mixM
theorem bigI_pos : (0 : Int) < bigI := by decide
theorem mixM_pos : (0 : Int) < mixM := by decide
theorem spread_bd (c k : Int) : 0 ≤ spreadI c k ∧ spreadI c k < bigI := ⟨Int.emod_nonneg _ (by decide), Int.emod_lt_of_pos _ bigI_pos⟩
theorem mixed_bd (n k : Int) : 0 ≤ mixedI n k ∧ mixedI n k < mixM := ⟨Int.emod_nonneg _ (by decide), Int.emod_lt_of_pos _ mixM_pos⟩
theorem mixH_bd (n k : Int) : 0 ≤ mixH n k ∧ mixH n k < mixM := ⟨Int.emod_nonneg _ (by decide), Int.emod_lt_of_pos _ mixM_pos⟩
/-- numbers that the law hands about -/
def NumOk (n : Int) : Prop := 0 ≤ n ∧ n < 10 ^ 41
theorem spread_num (c k : Int) : NumOk (spreadI c k) := by
  have h := spread_bd c k
  have e : bigI < 10 ^ 41 := by decide
  exact ⟨h.1, by omega⟩
theorem mixed_num (n k : Int) : NumOk (mixedI n k) := by
  have h := mixed_bd n k
  have e : mixM < 10 ^ 41 := by decide
  exact ⟨h.1, by omega⟩
theorem div_num {n : Int} (h : NumOk n) {j : Int} (hj : 0 < j) : NumOk (n / j) := by
  refine ⟨Int.ediv_nonneg h.1 (Int.le_of_lt hj), ?_⟩
  have := Int.ediv_le_self j h.1
  have := h.2
  omega
theorem num_lg {n : Int} (h : NumOk n) : n.natAbs.log2 < 200 := lgI (by decide) h.1 (Int.lt_trans h.2 (by decide))
end Q
namespace K53
open PySem PySem.Spec PyProof.Rows L2 DL Q
section
variable {P : Program} {w : World} {K : PySem.W.Frag} {mg : Str → Option Value} {base : Heap} {f : Addr} {fd : FuncData} {aR aC aT : Addr}
/-! _law_whole -/
theorem sc_lwhole : FnScope ["_law_found"] ["_law_found"] (defScope sLawWhole) := ⟨rfl, rfl, rfl, by decide +kernel, rfl, by decide +kernel, by decide +kernel⟩
theorem ok_lwhole (B : Bi mg) (F : FnP K "_law_whole" "_law_whole" sLawWhole f fd) : FnOk P w K mg base CX0 1 f fd ["_law_found"] (spS S_whole) := by
  refine fn_ok F sc_lwhole (by rintro _ _ ⟨d, rfl, rfl⟩; rfl) ?_
  rintro cdv A outer s H E hr _ _ ⟨d, rfl, rfl⟩
  refine bb_ret ?_
  refine EE.d (ee_and (e_isi B.isinstance (ee_v 0 rfl) (ee_bty B.int boot_int) (kit_int d)) (fun _ => ee_one (ee_not (e_isi B.isinstance (ee_v 0 rfl) (ee_bty B.bool boot_bool) (kit_bool d))))) ?_
  cases d <;> rfl
/-! _law_spread -/
def S_spread : List Ty → Ty → Prop := fun Ts T => ∃ c k : Int, 0 ≤ k ∧ k ≤ 1000 ∧ Ts = [D (.int c), D (.int k)] ∧ T = D (.int (spreadI c k))
theorem sc_spread : FnScope ["_law_cell", "_law_k", "_law_big"] ["_law_cell", "_law_k"] (defScope sLawSpread) := ⟨rfl, rfl, rfl, by decide +kernel, rfl, by decide +kernel, by decide +kernel⟩
theorem ok_spread (F : FnP K "_law_spread" "_law_spread" sLawSpread f fd) : FnOk P w K mg base CX0 1 f fd ["_law_cell", "_law_k"] (spS S_spread) := by
  refine fn_ok F sc_spread (by rintro _ _ ⟨_, _, _, _, rfl, rfl⟩; rfl) ?_
  rintro cdv A outer s H E hr _ _ ⟨c, k, k0, k1, rfl, rfl⟩
  have hn := sc_spread.nd
  refine bb_set 2 hn rfl (.inl rfl) (e_add (e_pow ee_int ee_int ⟨by decide, by decide, by decide⟩) ee_int) ?_
  have hk : k * k ≤ 1000000 := by
    have := Int.mul_le_mul k1 k1 k0 (by decide : (0 : Int) ≤ 1000)
    omega
  have hk0 : 0 ≤ k * k := Int.mul_nonneg k0 k0
  refine bb_ret (EE.d (e_mod (e_add (e_mul (e_mod (ee_v 0 rfl) (ee_v 2 rfl) (by decide)) ee_int ?_) (e_mul (e_add (e_add (e_mul (ee_v 1 rfl) (ee_v 1 rfl) ?_) (e_mul ee_int (ee_v 1 rfl) ?_)) ee_int) ee_int ?_)) (ee_v 2 rfl) (by decide)) rfl)
  · have h1 := Int.emod_nonneg c (show (10 ^ (40 : Int).toNat + 121 : Int) ≠ 0 by decide)
    have h2 := Int.emod_lt_of_pos c (show (0 : Int) < 10 ^ (40 : Int).toNat + 121 by decide)
    have := lgI (k := 200) (by decide) h1 (Int.lt_trans h2 (by decide))
    have := lgI (k := 200) (x := 31415926535897932384626433832795) (by decide) (by decide) (by decide)
    show _ + _ < 1000000
    omega
  · have := lgI (k := 20) (x := k) (by decide) k0 (by omega)
    show _ + _ < 1000000
    omega
  · have := lgI (k := 20) (x := k) (by decide) k0 (by omega)
    have := lgI (k := 20) (x := 3) (by decide) (by decide) (by decide)
    show _ + _ < 1000000
    omega
  · have := lgI (k := 40) (x := k * k + 3 * k + 7) (by decide) (by omega) (by omega)
    have := lgI (k := 200) (x := 2718281828459045235360287471) (by decide) (by decide) (by decide)
    show _ + _ < 1000000
    omega
/-! _law_mixed -/
def S_mixed : List Ty → Ty → Prop := fun Ts T => ∃ n k : Int, NumOk n ∧ 0 ≤ k ∧ k ≤ 1000 ∧ Ts = [D (.int n), D (.int k)] ∧ T = D (.int (mixedI n k))
theorem sc_mixed : FnScope ["_law_number", "_law_k", "_law_mixed_here"] ["_law_number", "_law_k"] (defScope sLawMixed) := ⟨rfl, rfl, rfl, by decide +kernel, rfl, by decide +kernel, by decide +kernel⟩
theorem ok_mixed (F : FnP K "_law_mixed" "_law_mixed" sLawMixed f fd) : FnOk P w K mg base CX0 1 f fd ["_law_number", "_law_k"] (spS S_mixed) := by
  refine fn_ok F sc_mixed (by rintro _ _ ⟨_, _, _, _, _, rfl, rfl⟩; rfl) ?_
  rintro cdv A outer s H E hr _ _ ⟨n, k, hnum, k0, k1, rfl, rfl⟩
  have hn := sc_mixed.nd
  have hl := num_lg hnum
  have hb := mixH_bd n k
  have hm : mixM < (2 ^ 200 : Nat) := by decide
  have hml := lgI (k := 200) (by decide) hb.1 (Int.lt_trans hb.2 hm)
  refine bb_set (T := D (.int (mixH n k))) 2 hn rfl (.inl rfl) (EE.d (e_mod (e_add (e_mul (ee_v 0 rfl) ee_int ?_) (e_mul (e_add (ee_v 1 rfl) ee_int) ee_int ?_)) (e_add (e_pow ee_int ee_int ⟨by decide, by decide, by decide⟩) ee_int) (by decide)) rfl) ?_
  · have := lgI (k := 20) (x := 69621) (by decide) (by decide) (by decide)
    show _ + _ < 1000000
    omega
  · have := lgI (k := 20) (x := k + 1) (by decide) (by omega) (by omega)
    have := lgI (k := 20) (x := 1000003) (by decide) (by decide) (by decide)
    show _ + _ < 1000000
    omega
  · refine bb_ret (EE.d (e_mod (e_mul (ee_v 2 rfl) (ee_v 2 rfl) ?_) (e_add (e_pow ee_int ee_int ⟨by decide, by decide, by decide⟩) ee_int) (by decide)) rfl)
    show _ + _ < 1000000
    omega
end
end K53

set_option Elab.async false
set_option linter.all false
set_option maxRecDepth 100000
set_option maxHeartbeats 4000000
namespace Q
open PySem DL L2
abbrev Lz : Str := "abcdefghijklmnopqrstuvwxyz"
theorem lz_at {j : Nat} (h : j < 26) : Lz.cps.toList[j]? = some (97 + j) := by
  have e : ∀ k ∈ List.range 26, Lz.cps.toList[k]? = some (97 + k) := by decide +kernel
  exact e j (List.mem_range.mpr h)
theorem lz_atI {i : Int} (h0 : 0 ≤ i) (h1 : i < 26) : atI Lz.cps.toList i = some (97 + i.toNat) := at_ i.toNat (by omega) (lz_at (by omega))
theorem cat_cps (x y : Str) : (x ++ y).cps.toList = x.cps.toList ++ y.cps.toList := by
  show (x.cps ++ y.cps).toList = _
  exact Array.toList_append
theorem len_cps (x : Str) : x.length = x.cps.toList.length := by
  show x.cps.size = _
  rw [Array.length_toList]
theorem cut_lo (z : Str) (a : Nat) : (cutS z none (some (a : Int))).cps.toList = z.cps.toList.take a := by
  unfold cutS
  rw [HT.sIx_none, HT.sIx_nat]
  show (z.cps.toList.drop 0).take (min a z.length - 0) = _
  rw [List.drop_zero, Nat.sub_zero, len_cps]
  by_cases h : a ≤ z.cps.toList.length
  · rw [Nat.min_eq_left h]
  · rw [Nat.min_eq_right (by omega), List.take_length, List.take_of_length_le (by omega)]
theorem cut_hi (z : Str) (a : Nat) : (cutS z (some (a : Int)) none).cps.toList = z.cps.toList.drop a := by
  unfold cutS
  rw [HT.sIx_none, HT.sIx_nat]
  show (z.cps.toList.drop (min a z.length)).take (z.length - min a z.length) = _
  rw [len_cps]
  by_cases h : a ≤ z.cps.toList.length
  · rw [Nat.min_eq_left h, List.take_of_length_le (by rw [List.length_drop]; exact Nat.le_refl _)]
  · rw [Nat.min_eq_right (by omega), Nat.sub_self, List.take_zero, List.drop_of_length_le (by omega)]
/-- all signs small letters -/
def Low (z : Str) : Prop := ∀ c ∈ z.cps.toList, 97 ≤ c ∧ c ≤ 122
def nmOf (z : Str) (a c : Nat) : Str := cutS z none (some (a : Int)) ++ ⟨#[c]⟩ ++ cutS z (some ((a + 1 : Nat) : Int)) none
theorem nm_cps (z : Str) (a c : Nat) : (nmOf z a c).cps.toList = z.cps.toList.take a ++ [c] ++ z.cps.toList.drop (a + 1) := by
  unfold nmOf
  rw [cat_cps, cat_cps, cut_lo, cut_hi]
theorem nm_ok {z : Str} {a c : Nat} (h : Low z) (ha : a < z.length) (hz : z.length ≤ 8) (h1 : 97 ≤ c) (h2 : c ≤ 122) : NameOk (nmOf z a c) := by
  have hl : (nmOf z a c).length = z.length := by
    rw [len_cps, nm_cps, len_cps z, List.length_append, List.length_append, List.length_take, List.length_drop, List.length_singleton]
    rw [len_cps] at ha
    omega
  refine ⟨by omega, by omega, fun x hx => ?_⟩
  rw [nm_cps] at hx
  rcases List.mem_append.mp hx with hx | hx
  · rcases List.mem_append.mp hx with hx | hx
    · exact h x (List.mem_of_mem_take hx)
    · rw [List.mem_singleton.mp hx]
      exact ⟨h1, h2⟩
  · exact h x (List.mem_of_mem_drop hx)
theorem nm_inj {z : Str} {a c c' : Nat} (h : nmOf z a c = nmOf z a c') : c = c' := by
  have e : (nmOf z a c).cps.toList = (nmOf z a c').cps.toList := by rw [h]
  rw [nm_cps, nm_cps] at e
  have e2 := List.append_cancel_right e
  have e3 := List.append_cancel_left e2
  exact List.cons.inj e3 |>.1
/-- the names -/
def signAt (n : Int) (k : Nat) : Nat := 97 + ((n + 5 * (k : Int)) % 26).toNat
theorem signAt_bd (n : Int) (k : Nat) : 97 ≤ signAt n k ∧ signAt n k ≤ 122 := by
  unfold signAt
  have h1 := Int.emod_nonneg (n + 5 * (k : Int)) (show (26 : Int) ≠ 0 by decide)
  have h2 := Int.emod_lt_of_pos (n + 5 * (k : Int)) (show (0 : Int) < 26 by decide)
  omega
theorem signAt_inj {n : Int} {j k : Nat} (hj : j < 5) (hk : k < 5) (h : signAt n j = signAt n k) : j = k := by
  unfold signAt at h
  have h1 := Int.emod_nonneg (n + 5 * (k : Int)) (show (26 : Int) ≠ 0 by decide)
  have h2 := Int.emod_nonneg (n + 5 * (j : Int)) (show (26 : Int) ≠ 0 by decide)
  omega
structure NamesOk (ns : List Str) : Prop where
  ln : ns.length = 5
  ok : ∀ x ∈ ns, NameOk x
  nd : ns.Nodup
theorem names_ok {z : Str} {a : Nat} {n : Int} (h : Low z) (ha : a < z.length) (hz : z.length ≤ 8) : NamesOk ((List.range 5).map fun k => nmOf z a (signAt n k)) := by
  refine ⟨by rw [List.length_map, List.length_range], fun x hx => ?_, ?_⟩
  · obtain ⟨k, _, rfl⟩ := List.mem_map.mp hx
    exact nm_ok h ha hz (signAt_bd n k).1 (signAt_bd n k).2
  · refine List.pairwise_map.mpr (List.Pairwise.imp_of_mem (fun {j k} hj hk hne e => hne ?_) List.nodup_range)
    exact signAt_inj (List.mem_range.mp hj) (List.mem_range.mp hk) (nm_inj e)
end Q
namespace K53
open PySem PySem.Spec PyProof.Rows L2 DL Q
section
variable {P : Program} {w : World} {K : PySem.W.Frag} {mg : Str → Option Value} {base : Heap} {f : Addr} {fd : FuncData} {aR aC aT : Addr}
def namesD (ns : List Str) : PyData := .list (ns.map PyData.str)
def NamesP (d : PyData) : Prop := ∃ ns : List Str, NamesOk ns ∧ d = namesD ns
def S_names : List Ty → Ty → Prop := fun Ts T => ∃ n : Int, Ts = [D (.int n)] ∧ T = Ex NamesP
theorem sc_names : FnScope ["_law_number", "_law_letters", "_law_size", "_law_at", "_law_base", "_law_k", "_law_sign"] ["_law_number"] (defScope sLawNames) := ⟨rfl, rfl, rfl, by decide +kernel, rfl, by decide +kernel, by decide +kernel⟩
theorem ok_names (B : Bi mg) (F : FnP K "_law_names" "_law_names" sLawNames f fd) : FnOk P w K mg base CX0 1 f fd ["_law_number"] (spS S_names) := by
  refine fn_ok F sc_names (by rintro _ _ ⟨_, rfl, rfl⟩; rfl) ?_
  rintro cdv A outer s H E hr _ _ ⟨n, rfl, rfl⟩
  have hn := sc_names.nd
  refine bb_set 1 hn rfl (.inr rfl) ee_str ?_
  refine bb_asg (e_divmod B.divmod (ee_v 0 rfl) ee_int (by decide) (by decide)) (gg_pair rfl (gg_name 0 hn rfl (.inr rfl)) (gg_name 2 hn rfl (.inl rfl))) ?_
  have s0 := Int.emod_nonneg n (show (8 : Int) ≠ 0 by decide)
  have s1 := Int.emod_lt_of_pos n (show (0 : Int) < 8 by decide)
  generalize n % 8 = sz at s0 s1 ⊢
  generalize n / 8 = n1
  refine bb_asg (e_divmod B.divmod (ee_v 0 rfl) (e_add (ee_v 2 rfl) ee_int) (by omega) (by omega)) (gg_pair rfl (gg_name 0 hn rfl (.inr rfl)) (gg_name 3 hn rfl (.inr rfl))) ?_
  have a0 := Int.emod_nonneg n1 (show sz + 1 ≠ 0 by omega)
  have a1 := Int.emod_lt_of_pos n1 (show (0 : Int) < sz + 1 by omega)
  generalize n1 % (sz + 1) = at_ at a0 a1 ⊢
  generalize n1 / (sz + 1) = n2
  obtain ⟨a, rfl⟩ : ∃ a : Nat, at_ = (a : Int) := ⟨at_.toNat, (Int.toNat_of_nonneg a0).symm⟩
  refine bb_set 4 hn rfl (.inr rfl) ee_str ?_
  refine bb_for (fun i ρ => ∃ (m : Int) (z : Str) (x y : Sl), z.length = i ∧ Low z ∧ ρ = [.va (D (.int m)), .va (D (.str Lz)), .va (D (.int sz)), .va (D (.int (a : Int))), .va (D (.str z)), x, y]) PassesOwn.never rfl
    (it_range1 (n := sz + 1) B.range (e_add (ee_v 2 rfl) ee_int) (by omega) (by omega)) ⟨n2, "", _, _, rfl, (fun c hc => nomatch hc), rfl⟩ ?_ ?_
  · rintro i T ρ' hT ⟨m, z, x, y, hz, hlo, rfl⟩
    obtain ⟨hi, rfl⟩ := rangeT_at hT
    refine ⟨_, _, gg_name 5 hn rfl (.inl rfl), ?_⟩
    refine bb_asg (e_divmod B.divmod (ee_v 0 rfl) ee_int (by decide) (by decide)) (gg_pair rfl (gg_name 0 hn rfl (.inr rfl)) (gg_name 6 hn rfl (.inl rfl))) ?_
    have m0 := Int.emod_nonneg m (show (26 : Int) ≠ 0 by decide)
    have m1 := Int.emod_lt_of_pos m (show (0 : Int) < 26 by decide)
    refine bb_set 4 hn rfl (.inr rfl) (e_catS (ee_v 4 rfl) (e_ixS (ee_v 1 rfl) (ee_v 6 rfl) (by decide) (lz_atI m0 m1)) ?_) (bb_nil ⟨m / 26, z ++ ⟨#[97 + (m % 26).toNat]⟩, .va (D (.int (0 + (i : Nat)))), .va (D (.int (m % 26))), ?_, fun c hc => ?_, rfl⟩)
    · show z.length + 1 ≤ 100000
      omega
    · rw [len_cps, cat_cps, List.length_append, ← len_cps, hz]
      rfl
    · rw [cat_cps] at hc
      rcases List.mem_append.mp hc with hc | hc
      · exact hlo c hc
      · have : c = 97 + (m % 26).toNat := List.mem_singleton.mp hc
        omega
  · rintro ρ' ⟨m, z, x, y, hz, hlo, rfl⟩
    rw [rangeT_length] at hz
    have hzl : (z.length : Int) = sz + 1 := by omega
    refine bb_ret (EE.ex (EO.d (o_lc (own := [("_law_k", 5)]) (((List.range 5).map fun k => nmOf z a (signAt m k)).map PyData.str) rfl hn (it_range1 (n := 5) B.range ee_int (by decide) (by decide)) (blkOk_by (N := ["_law_number", "_law_letters", "_law_size", "_law_at", "_law_base", "_law_k", "_law_sign"]) (sc := defScope sLawNames) (by decide +kernel)) ?_ ?_ ?_)) ⟨_, names_ok hlo (by omega) (by omega), rfl⟩)
    · rw [List.length_map, List.length_map, List.length_range, rangeT_length]
      rfl
    · rw [rangeT_length]
      decide
    · intro k T d hT hd
      obtain ⟨hk, rfl⟩ := rangeT_at hT
      have hk5 : k < 5 := hk
      rw [List.getElem?_map, List.getElem?_map, List.getElem?_range hk5] at hd
      rw [← Option.some.inj hd]
      have q0 := Int.emod_nonneg (m + 5 * (0 + (k : Int))) (show (26 : Int) ≠ 0 by decide)
      have q1 := Int.emod_lt_of_pos (m + 5 * (0 + (k : Int))) (show (0 : Int) < 26 by decide)
      have hlo1 : (cutS z none (some (a : Int))).length ≤ 8 := by
        rw [len_cps, cut_lo, List.length_take, ← len_cps]
        omega
      have hhi1 : (cutS z (some ((a + 1 : Nat) : Int)) none).length ≤ 8 := by
        rw [len_cps, cut_hi, List.length_drop, ← len_cps]
        omega
      refine turn_keep (fun s H C cl fp => gg_name 5 hn rfl (.inl rfl)) fun s H C cl fp => EE.d (e_catS (e_catS (ee_sl sl_str (ee_v 4 rfl) ep_none (ep_some (ee_v 3 rfl)) (rs_S (by omega)))
        (e_ixS (ee_v 1 rfl) (e_mod (e_add (ee_v 0 rfl) (e_mul ee_int (ee_v 5 rfl) ?_)) ee_int (by decide)) (by decide) (lz_atI q0 q1)) ?_) (ee_sl sl_str (ee_v 4 rfl) (ep_some (i := ((a + 1 : Nat) : Int)) (EE.d (e_add (ee_v 3 rfl) ee_int) rfl)) ep_none (rs_S (by omega))) ?_) ?_
      · have h1 := lgI (k := 20) (x := 5) (by decide) (by decide) (by decide)
        have h2 := lgI (k := 20) (x := 0 + (k : Int)) (by decide) (by omega) (by omega)
        show _ + _ < 1000000
        omega
      · show _ + 1 ≤ 100000
        omega
      · rw [len_cps, cat_cps, List.length_append, ← len_cps]
        show _ + 1 + _ ≤ 100000
        omega
      · unfold nmOf signAt
        rw [Int.zero_add]
end
end K53

set_option Elab.async false
set_option linter.all false
set_option maxRecDepth 100000
set_option maxHeartbeats 4000000
namespace DL
open PySem PySem.Spec PyProof.Rows L2 Q
theorem set_same {α : Type} {xs : List α} {i : Nat} {a : α} (h : xs[i]? = some a) : xs.set i a = xs := by
  refine List.ext_getElem? fun j => ?_
  by_cases q : i = j
  · subst q
    rw [List.getElem?_set_self (List.getElem?_eq_some_iff.mp h).1, h]
  · rw [List.getElem?_set_ne q]
/-- if c: x = e, the paths joined -/
theorem bb_ifset {X : Cx} {ρ : List Sl} {rest : List Stmt} {E : En} {x : Str} {e c : Expr} {b : Bool} {pos pos' pos2 : Pos} (Pd : PyData → Prop) (i : Nat) (hN : X.N.Nodup) (hi : X.N[i]? = some x) (hx : Loc X.env.scope x) (hc : ET X ρ c b) (h1 : b = true → ∃ d', Pd d' ∧ EE X ρ e (D d')) (h0 : b = false → ∃ d', Pd d' ∧ ρ[i]? = some (.va (D d')))
    (h : ∀ d', Pd d' → BB X (ρ.set i (.va (D d'))) rest E) (hs : swapsWith e (some (.Name x pos')) pos.line X.env = pure false := by rfl) (hf : X.fn x = true ∨ X.env.scope.names.lookup x = some .local := by first | exact .inl rfl | exact .inr rfl | assumption) :
    BB X ρ (.If c [.Assign [.Name x pos'] e pos] [] pos2 :: rest) E := by
  refine bb_if0 hc (fun hb => ?_) (fun hb => ?_)
  · obtain ⟨d', hd, he⟩ := h1 hb
    exact bb_set i hN hi hx he (bb_nil (h d' hd)) hs hf
  · obtain ⟨d', hd, he⟩ := h0 hb
    have := h d' hd
    rw [set_same he] at this
    exact this
end DL
namespace Q
open PySem DL L2
structure PlP (L C : Nat) (bl : Int → Prop) (d : PyData) : Prop where
  tm : Tm d
  lv : lev d ≤ L
  ct : cnt d ≤ C
  bk : ∀ i, PyData.int i ∈ parts d → bl i
theorem PlP.mono {L C L' C' : Nat} {bl bl' : Int → Prop} {d : PyData} (h : PlP L C bl d) (l : L ≤ L') (c : C ≤ C') (b : ∀ i, bl i → bl' i) : PlP L' C' bl' d := ⟨h.tm, Nat.le_trans h.lv l, Nat.le_trans h.ct c, fun i hi => b i (h.bk i hi)⟩
theorem lev_int (i : Int) : lev (.int i) = 1 := by rw [lev]; intros; simp_all
theorem cnt_int (i : Int) : cnt (.int i) = 1 := by rw [cnt]; intros; simp_all
theorem PlP.blank {bl : Int → Prop} {b : Int} (h0 : 0 ≤ b) (h1 : b ≤ 999) (hb : bl b) : PlP 1 1 bl (.int b) :=
  ⟨.blk b h0 h1, by rw [lev_int]; exact Nat.le_refl _, by rw [cnt_int]; exact Nat.le_refl _, fun i hi => by
    rw [parts] at hi
    cases List.mem_singleton.mp hi
    exact hb⟩
theorem levL_le : ∀ {as : List PyData} {n : Nat}, (∀ a ∈ as, lev a ≤ n) → levL as ≤ n
  | [], n, _ => by rw [levL]; exact Nat.zero_le _
  | a :: as, n, h => by
    rw [levL]
    have h1 := h a List.mem_cons_self
    have h2 := levL_le (as := as) fun x hx => h x (List.mem_cons_of_mem _ hx)
    omega
theorem cntL_le' : ∀ {as : List PyData} {n : Nat}, (∀ a ∈ as, cnt a ≤ n) → cntL as ≤ as.length * n
  | [], n, _ => by rw [cntL]; exact Nat.zero_le _
  | a :: as, n, h => by
    rw [cntL, List.length_cons, Nat.add_mul]
    have h1 := h a List.mem_cons_self
    have h2 := cntL_le' (as := as) fun x hx => h x (List.mem_cons_of_mem _ hx)
    omega
theorem PlP.app {L C : Nat} {bl : Int → Prop} {s : Str} {as : List PyData} (hs : NameOk s) (hl : as.length ≤ 9) (h : ∀ a ∈ as, PlP L C bl a) : PlP (L + 1) (1 + as.length * C) bl (.tuple (.str s :: as)) := by
  refine ⟨.app s as hs hl fun a ha => (h a ha).tm, ?_, ?_, fun i hi => ?_⟩
  · rw [lev_app]
    have := levL_le fun a ha => (h a ha).lv
    omega
  · rw [cnt_app]
    have := cntL_le' fun a ha => (h a ha).ct
    omega
  · rw [parts_app] at hi
    rcases List.mem_cons.mp hi with z | z
    · cases z
    · obtain ⟨a, ha, hp⟩ := partsL_mem z
      exact (h a ha).bk i hp
theorem partsL_in : ∀ {as : List PyData} {a p : PyData}, a ∈ as → p ∈ parts a → p ∈ partsL as
  | x :: as, a, p, h, hp => by
    rw [partsL]
    rcases List.mem_cons.mp h with z | z
    · rw [← z]
      exact List.mem_append_left _ hp
    · exact List.mem_append_right _ (partsL_in z hp)
theorem PlP.sub {L C : Nat} {bl : Int → Prop} {s : Str} {as : List PyData} {a : PyData} (h : PlP L C bl (.tuple (.str s :: as))) (ha : a ∈ as) : PlP L C bl a := by
  rcases h.tm.cases_ with ⟨n, e, _⟩ | ⟨s', as', e, hs, hl, hA⟩
  · cases e
  · cases e
    have l1 := levL_mem ha
    have l2 := cntL_mem ha
    have h1 := h.lv
    have h2 := h.ct
    rw [lev_app] at h1
    rw [cnt_app] at h2
    refine ⟨hA a ha, by omega, by omega, fun i hi => h.bk i ?_⟩
    rw [parts_app]
    exact List.mem_cons_of_mem _ (partsL_in ha hi)
theorem list5 {α : Type} {ns : List α} (h : ns.length = 5) : ∃ a b c d e, ns = [a, b, c, d, e] := by
  match ns, h with
  | [a, b, c, d, e], _ => exact ⟨a, b, c, d, e, rfl⟩
theorem list3 {α : Type} {ns : List α} (h : ns.length = 3) : ∃ a b c, ns = [a, b, c] := by
  match ns, h with
  | [a, b, c], _ => exact ⟨a, b, c, rfl⟩
theorem shaped_list {ds : List PyData} (h : ∀ d ∈ ds, Tm d ∧ lev d ≤ 50) : SeqAt.shaped (.list ds) = true := by
  have h1 : PyData.canLayAll0 ds = true := canLayAll_mem.mpr fun a ha => (h a ha).1.canLay
  have h2 : PyData.depthAll ds ≤ 50 := depthAll_le fun a ha => Nat.le_trans (h a ha).1.depth (h a ha).2
  unfold SeqAt.shaped
  rw [Bool.and_eq_true]
  refine ⟨by simpa [PyData.canLay0] using h1, decide_eq_true ?_⟩
  rw [PyData.depth]
  omega
end Q
namespace K53
open PySem PySem.Spec PyProof.Rows L2 DL Q
section
variable {P : Program} {w : World} {K : PySem.W.Frag} {mg : Str → Option Value} {base : Heap} {f : Addr} {fd : FuncData} {aR aC aT : Addr}
structure Nm5 (ns : List Str) : Prop where
  ln : ns.length = 5
  ok : ∀ x ∈ ns, NameOk x
/-! _law_place -/
def S_place : List Ty → Ty → Prop := fun Ts T => ∃ (n : Int) (ns : List Str) (b : Int), Nm5 ns ∧ 0 ≤ b ∧ b ≤ 999 ∧ Ts = [D (.int n), D (namesD ns), D (.int b)] ∧ T = Ex (PlP 3 3 fun i => i = b)
theorem sc_place : FnScope ["_law_number", "_law_names_here", "_law_blank", "_law_some"] ["_law_number", "_law_names_here", "_law_blank"] (defScope sLawPlace) := ⟨rfl, rfl, rfl, by decide +kernel, rfl, by decide +kernel, by decide +kernel⟩
theorem ok_place (F : FnP K "_law_place" "_law_place" sLawPlace f fd) : FnOk P w K mg base CX0 1 f fd ["_law_number", "_law_names_here", "_law_blank"] (spS S_place) := by
  refine fn_ok F sc_place (by rintro _ _ ⟨_, _, _, _, _, _, rfl, rfl⟩; rfl) ?_
  rintro cdv A outer s H E hr _ _ ⟨n, ns, b, nok, b0, b9, rfl, rfl⟩
  have hn := sc_place.nd
  obtain ⟨x0, x1, x2, x3, x4, rfl⟩ := list5 nok.ln
  have hx3 : NameOk x3 := nok.ok x3 (by simp)
  have hx4 : NameOk x4 := nok.ok x4 (by simp)
  have q0 := Int.emod_nonneg n (show (6 : Int) ≠ 0 by decide)
  have q1 := Int.emod_lt_of_pos n (show (0 : Int) < 6 by decide)
  have p1 : PlP 3 3 (fun i => i = b) (.int b) := (PlP.blank (bl := fun i => i = b) b0 b9 rfl).mono (by decide) (by decide) fun _ h => h
  have p2' : PlP 2 2 (fun i => i = b) (.tuple [.str x3, .int b]) := PlP.app (as := [.int b]) hx3 (by simp) fun a ha => by rw [List.mem_singleton.mp ha]; exact PlP.blank (bl := fun i => i = b) b0 b9 rfl
  have p2 : PlP 3 3 (fun i => i = b) (.tuple [.str x3, .int b]) := p2'.mono (by decide) (by decide) fun _ h => h
  have p3 : PlP 3 3 (fun i => i = b) (.tuple [.str x3, .tuple [.str x3, .int b]]) := PlP.app (L := 2) (C := 2) (as := [.tuple [.str x3, .int b]]) hx3 (by simp) fun a ha => by rw [List.mem_singleton.mp ha]; exact p2'
  have p4 : PlP 3 3 (fun i => i = b) (.tuple [.str x4]) := (PlP.app (L := 1) (C := 1) (as := []) hx4 (by simp) (fun a ha => nomatch ha)).mono (by decide) (by decide) fun _ h => h
  have hall : ∀ d ∈ [PyData.int b, .tuple [.str x3, .int b], .tuple [.str x3, .tuple [.str x3, .int b]], .tuple [.str x4], .tuple [.str x3, .int b], .int b], PlP 3 3 (fun i => i = b) d := fun d hd => by
    simp only [List.mem_cons, List.not_mem_nil, or_false] at hd
    rcases hd with rfl | rfl | rfl | rfl | rfl | rfl <;> assumption
  refine bb_set 3 hn rfl (.inl rfl) (ee_lst (ead_cons (ee_v 2 rfl) (ead_cons (ee_tup (ead_cons (e_ixL (ee_v 1 rfl) ee_int (at_ 3 rfl rfl)) (ead_cons (ee_v 2 rfl) ead_nil)))
    (ead_cons (ee_tup (ead_cons (e_ixL (ee_v 1 rfl) ee_int (at_ 3 rfl rfl)) (ead_cons (ee_tup (ead_cons (e_ixL (ee_v 1 rfl) ee_int (at_ 3 rfl rfl)) (ead_cons (ee_v 2 rfl) ead_nil))) ead_nil)))
    (ead_cons (ee_tup (ead_cons (e_ixL (ee_v 1 rfl) ee_int (at_ 4 rfl rfl)) ead_nil)) (ead_cons (ee_tup (ead_cons (e_ixL (ee_v 1 rfl) ee_int (at_ 3 rfl rfl)) (ead_cons (ee_v 2 rfl) ead_nil))) (ead_cons (ee_v 2 rfl) ead_nil))))))) ?_
  have hlt : (n % 6).toNat < 6 := by omega
  exact bb_ret (EE.ex (e_ixL (ee_v 3 rfl) (e_mod (ee_v 0 rfl) ee_int (by decide)) (at_ (n % 6).toNat (by omega) (List.getElem?_eq_getElem (show (n % 6).toNat < [PyData.int b, .tuple [.str x3, .int b], .tuple [.str x3, .tuple [.str x3, .int b]], .tuple [.str x4], .tuple [.str x3, .int b], .int b].length from hlt)))) (hall _ (List.getElem_mem _)))
end
end K53

set_option Elab.async false
set_option linter.all false
set_option maxRecDepth 100000
set_option maxHeartbeats 4000000
namespace K53
open PySem PySem.Spec PyProof.Rows L2 DL Q
section
variable {P : Program} {w : World} {K : PySem.W.Frag} {mg : Str → Option Value} {base : Heap} {f : Addr} {fd : FuncData} {aR aC aT : Addr}
structure CtOk (cs : List Int) : Prop where
  ln : cs.length = 3
  ok : ∀ c ∈ cs, 0 ≤ c ∧ c ≤ 3
def ctsD (cs : List Int) : PyData := .list (cs.map PyData.int)
/-! _law_call -/
structure ClP (L C : Nat) (bl : Int → Prop) (d : PyData) : Prop where
  p : PlP (L + 2) (1 + 3 * (C + 1)) bl d
  a : isApp d = true
def S_lcall : List Ty → Ty → Prop := fun Ts T => ∃ (n : Int) (ns : List Str) (cs : List Int) (ds : List PyData) (L C : Nat) (bl : Int → Prop), NumOk n ∧ Nm5 ns ∧ CtOk cs ∧ 1 ≤ L ∧ 1 ≤ C ∧ L ≤ 40 ∧ ds.length ≤ 100 ∧ (∀ d ∈ ds, PlP L C bl d) ∧ Ts = [D (.int n), D (namesD ns), D (ctsD cs), D (.list ds)] ∧ T = Ex (ClP L C bl)
theorem sc_lcall : FnScope ["_law_number", "_law_names_here", "_law_counts", "_law_places", "_law_which", "_law_handed", "_law_k", "_law_place_here"] ["_law_number", "_law_names_here", "_law_counts", "_law_places"] (defScope sLawCall) := ⟨rfl, rfl, rfl, by decide +kernel, rfl, by decide +kernel, by decide +kernel⟩
def longB : PyData → Bool
  | .tuple xs => decide ((1 : Int) < (xs.length : Nat))
  | _ => false
theorem eqv_nil (ds : List PyData) : PyData.eqv (.list ds) (.list []) = ds.isEmpty := by
  cases ds <;> rfl
theorem nm_at {ns : List Str} (h : Nm5 ns) {i : Int} (h0 : 0 ≤ i) (h1 : i < 5) : ∃ x, NameOk x ∧ ns[i.toNat]? = some x ∧ atI (ns.map PyData.str) i = some (.str x) := by
  have hl : i.toNat < ns.length := by rw [h.ln]; omega
  refine ⟨ns[i.toNat], h.ok _ (List.getElem_mem hl), List.getElem?_eq_getElem hl, at_ i.toNat (by omega) ?_⟩
  rw [List.getElem?_map, List.getElem?_eq_getElem hl]
  rfl
theorem ct_at {cs : List Int} (h : CtOk cs) {i : Int} (h0 : 0 ≤ i) (h1 : i < 3) : ∃ c, 0 ≤ c ∧ c ≤ 3 ∧ cs[i.toNat]? = some c ∧ atI (cs.map PyData.int) i = some (.int c) := by
  have hl : i.toNat < cs.length := by rw [h.ln]; omega
  have := h.ok _ (List.getElem_mem hl)
  refine ⟨cs[i.toNat], this.1, this.2, List.getElem?_eq_getElem hl, at_ i.toNat (by omega) ?_⟩
  rw [List.getElem?_map, List.getElem?_eq_getElem hl]
  rfl
theorem ds_at {ds : List PyData} {j : Int} (h0 : 0 ≤ j) (h1 : j < (ds.length : Nat)) : ∃ d ∈ ds, atI ds j = some d := by
  have hl : j.toNat < ds.length := by omega
  exact ⟨ds[j.toNat], List.getElem_mem hl, at_ j.toNat (by omega) (List.getElem?_eq_getElem hl)⟩
theorem small_lg {j : Int} (h0 : 0 < j) (h1 : j < 1000000) : CDivW i j := ⟨h0, by have := lgI (k := 20) (x := j) (by decide) (by omega) (by omega); omega⟩
theorem ok_lcall (B : Bi mg) (G1 : Fn P w K mg base 1 "_law_whole" S_whole) (G2 : Fn P w K mg base 1 "_law_mixed" S_mixed) (F : FnP K "_law_call" "_law_call" sLawCall f fd) : FnOk P w K mg base CX0 2 f fd ["_law_number", "_law_names_here", "_law_counts", "_law_places"] (spS S_lcall) := by
  refine fn_ok F sc_lcall (by rintro _ _ ⟨_, _, _, _, _, _, _, _, _, _, _, _, _, _, _, rfl, rfl⟩; rfl) ?_
  rintro cdv A outer s H E hr _ _ ⟨n, ns, cs, ds, L, C, bl, hnum, nok, cok, hL, hC, hL4, hdl, hds, rfl, rfl⟩
  have hn := sc_lcall.nd
  have w0 := Int.emod_nonneg n (show (3 : Int) ≠ 0 by decide)
  have w1 := Int.emod_lt_of_pos n (show (0 : Int) < 3 by decide)
  obtain ⟨xw, hxw, _, exw⟩ := nm_at nok w0 (by omega)
  obtain ⟨x4, hx4, _, ex4⟩ := nm_at nok (i := 4) (by decide) (by decide)
  obtain ⟨x3, hx3, _, ex3⟩ := nm_at nok (i := 3) (by decide) (by decide)
  obtain ⟨c, c0, c3, _, ec⟩ := ct_at cok w0 w1
  have hdsh : SeqAt.shaped (.list ds) = true := shaped_list fun d hd => ⟨(hds d hd).tm, by have := (hds d hd).lv; omega⟩
  have pe4 : PlP L C bl (.tuple [.str x4]) := (PlP.app (L := 0) (C := 0) (as := []) hx4 (by simp) (fun a ha => nomatch ha)).mono (by omega) (by simp; omega) fun _ h => h
  refine bb_asg (e_divmod B.divmod (ee_v 0 rfl) ee_int (by decide) (by decide)) (gg_pair rfl (gg_name 0 hn rfl (.inl rfl)) (gg_name 4 hn rfl (.inl rfl))) ?_
  have hnum3 := div_num hnum (j := 3) (by decide)
  refine bb_setO 5 hn rfl (.inl rfl) (eo_lst ead_nil) ?_
  refine bb_for (fun i ρ => ∃ (m : Int) (hs : List PyData) (x y : Sl), NumOk m ∧ hs.length = i ∧ (∀ d ∈ hs, PlP (L + 1) (C + 1) bl d) ∧ ρ = [.va (D (.int m)), .va (D (namesD ns)), .va (D (ctsD cs)), .va (D (.list ds)), .va (D (.int (n % 3))), .ow (OwnL hs), x, y]) PassesOwn.never rfl
    (it_range1 (n := c) B.range (e_ixL (ee_v 2 rfl) (ee_v 4 rfl) ec) (by omega) (by omega)) ⟨n / 3, [], _, _, hnum3, rfl, (fun d hd => nomatch hd), rfl⟩ ?_ ?_
  · rintro i T ρ' hT ⟨m0, hs, x, y, hm0, hsl, hsp, rfl⟩
    obtain ⟨hi, rfl⟩ := rangeT_at hT
    refine ⟨_, _, gg_name 6 hn rfl (.inl rfl), ?_⟩
    refine bb_set (T := D (.int (mixedI m0 (0 + (i : Nat))))) 0 hn rfl (.inl rfl) (ee_call G2 hr (ea_cons (ee_v 0 rfl) (ea_cons (ee_v 6 rfl) ea_nil)) ⟨m0, _, hm0, by omega, by omega, rfl, rfl⟩) ?_
    have hm := mixed_num m0 (0 + (i : Nat))
    generalize mixedI m0 (0 + (i : Nat)) = m at hm ⊢
    refine bb_set (T := D (.tuple [.str x4])) 7 hn rfl (.inl rfl) (ee_tup (ead_cons (e_ixL (ee_v 1 rfl) ee_int ex4) ead_nil)) ?_
    refine bb_ifset (PlP L C bl) 7 hn rfl (.inl rfl) (t_neD hr (ee_v 3 rfl) (ee_lst ead_nil) hdsh rfl) (fun hb => ?_) (fun hb => ⟨_, pe4, rfl⟩) (fun d1 hd1 => ?_)
    · rw [eqv_nil, Bool.not_eq_true'] at hb
      have hpos : 0 < ds.length := by cases ds with | nil => cases hb | cons => simp
      obtain ⟨d, hd, ed⟩ := ds_at (ds := ds) (Int.emod_nonneg m (show ((ds.length : Nat) : Int) ≠ 0 by omega)) (Int.emod_lt_of_pos m (by omega))
      exact ⟨d, hds d hd, e_ixL (ee_v 3 rfl) (e_mod (ee_v 0 rfl) (e_lenL B.len (ee_v 3 rfl)) (by omega)) ed⟩
    refine bb_ifset (PlP L C bl) 7 hn rfl (.inl rfl) (EW.t (ew_and (t_ltI (e_mod (e_div (ee_v 0 rfl) ee_int (small_lg (by decide) (by decide))) ee_int (by decide)) ee_int) fun _ => ew_and1 (t_neD hr (ee_v 3 rfl) (ee_lst ead_nil) hdsh rfl))) (fun hb => ?_) (fun hb => ⟨_, hd1, rfl⟩) (fun d2 hd2 => ?_)
    · rw [Bool.and_eq_true, eqv_nil, Bool.not_eq_true'] at hb
      have hpos : 0 < ds.length := by
        cases ds with
        | nil => cases hb.2
        | cons => simp
      obtain ⟨d, hd, ed⟩ := ds_at (ds := ds) (Int.emod_nonneg (0 + (i : Nat)) (show ((ds.length : Nat) : Int) ≠ 0 by omega)) (Int.emod_lt_of_pos (0 + (i : Nat)) (by omega))
      exact ⟨d, hds d hd, e_ixL (ee_v 3 rfl) (e_mod (ee_v 6 rfl) (e_lenL B.len (ee_v 3 rfl)) (by omega)) ed⟩
    refine bb_ifset (PlP L C bl) 7 hn rfl (.inl rfl) (b := decide (m / 40 % 2 = 0) && (!wholeD d2 && longB d2)) (EW.t (ew_and (t_eqI (e_mod (e_div (ee_v 0 rfl) ee_int (small_lg (by decide) (by decide))) ee_int (by decide)) ee_int) fun _ =>
      ew_and (et_not (et_val (ee_call G1 hr (ea_cons (ee_v 7 rfl) ea_nil) ⟨d2, rfl, rfl⟩))) fun hw => ew_and1 ?_)) (fun hb => ?_) (fun hb => ⟨_, hd2, rfl⟩) (fun d3 hd3 => ?_)
    · rcases hd2.tm.cases_ with ⟨z, rfl, _⟩ | ⟨s, as, rfl, _⟩
      · cases hw
      · exact ET.to (t_gtI (e_lenT B.len (ee_v 7 rfl)) ee_int) rfl
    · rw [Bool.and_eq_true, Bool.and_eq_true] at hb
      rcases hd2.tm.cases_ with ⟨z, rfl, _⟩ | ⟨s, as, rfl, _⟩
      · cases hb.2.1
      · have h1 := of_decide_eq_true hb.2.2
        rw [List.length_cons] at h1
        cases as with
        | nil => simp at h1
        | cons a as => exact ⟨a, hd2.sub List.mem_cons_self, e_ixT (ee_v 7 rfl) ee_int (at_ 1 rfl rfl)⟩
    refine bb_ifset (PlP (L + 1) (C + 1) bl) 7 hn rfl (.inl rfl) (t_eqI (e_mod (e_div (ee_v 0 rfl) ee_int (small_lg (by decide) (by decide))) ee_int (by decide)) ee_int) (fun hb => ?_) (fun hb => ⟨_, hd3.mono (by omega) (by omega) (fun _ h => h), rfl⟩) (fun d4 hd4 => ?_)
    · refine ⟨.tuple [.str x3, d3], ?_, ee_tup (ead_cons (e_ixL (ee_v 1 rfl) ee_int ex3) (ead_cons (ee_v 7 rfl) ead_nil))⟩
      exact (PlP.app (as := [d3]) hx3 (by simp) fun a ha => by rw [List.mem_singleton.mp ha]; exact hd3).mono (Nat.le_refl _) (by simp; omega) fun _ h => h
    refine bb_append 5 rfl (by omega) (ee_v 7 rfl) (bb_nil ⟨m, hs ++ [d4], .va (D (.int (0 + (i : Nat)))), .va (D d4), hm, by rw [List.length_append, hsl]; rfl, fun d hd => ?_, rfl⟩)
    rcases List.mem_append.mp hd with z | z
    · exact hsp d z
    · rw [List.mem_singleton.mp z]
      exact hd4
  · rintro ρ' ⟨m0, hs, x, y, hm0, hsl, hsp, rfl⟩
    rw [rangeT_length] at hsl
    have hl3 : hs.length ≤ 3 := by omega
    refine bb_fixL 5 rfl (bb_ret (EE.ex (e_tuple B.tuple (e_catL (ee_lst (ead_cons (e_ixL (ee_v 1 rfl) (ee_v 4 rfl) exw) ead_nil)) (ee_v 5 rfl) ?_)) ⟨?_, rfl⟩))
    · show 1 + hs.length ≤ 100000
      omega
    · have := PlP.app (as := hs) hxw (by omega) hsp
      refine this.mono (by omega) ?_ fun _ h => h
      have := Nat.mul_le_mul_right (C + 1) hl3
      omega
end
end K53

set_option Elab.async false
set_option linter.all false
set_option maxRecDepth 100000
set_option maxHeartbeats 4000000
namespace DL
open PySem PySem.Spec PyProof.Rows L2 Q
section
variable {X : Cx} {ρ : List Sl} {e : Expr} {es : List Expr} {Ts : List Ty} {pos : Pos} {T : Ty}
theorem EE.exle {P P' : PyData → Prop} (h : EE X ρ e (Ex P)) (l : ∀ d, P d → P' d) : EE X ρ e (Ex P') := h.le fun _ _ ⟨d, hd, hv⟩ => ⟨d, l d hd, hv⟩
theorem ee_tupT {k} (h : EA X ρ es Ts) (hl : Nat.ble Ts.length 100000 = true := by rfl) : EE X ρ (.Tuple es k pos) (TupT Ts) := fun F Hs H σ Q E q => by
  refine RE.of (pe_tup pa_RA) ?_
  refine h F Hs H σ _ E fun vs Hs1 H1 X1 hvs => ?_
  refine ⟨by rw [← hvs.length]; exact small_line hl, fun p hp => ?_⟩
  have m := (Same.refl Hs1).newU (p := p) (o := .tup vs) (X1.b.free hp)
  exact q _ _ _ (X1.trans (Ext.new X1.b hp)) ⟨p, vs, rfl, upd_same, hvs.mono m⟩
/-- if c: x = e, the paths joined; e is one of some -/
theorem bb_ifsetX {rest : List Stmt} {E : En} {x : Str} {c : Expr} {b : Bool} {pos' pos2 : Pos} (Pd : PyData → Prop) (i : Nat) (hN : X.N.Nodup) (hi : X.N[i]? = some x) (hx : Loc X.env.scope x) (hc : ET X ρ c b) (h1 : b = true → EE X ρ e (Ex Pd)) (h0 : b = false → ∃ d', Pd d' ∧ ρ[i]? = some (.va (D d')))
    (h : ∀ d', Pd d' → BB X (ρ.set i (.va (D d'))) rest E) (hs : swapsWith e (some (.Name x pos')) pos.line X.env = pure false := by rfl) (hf : X.fn x = true ∨ X.env.scope.names.lookup x = some .local := by first | exact .inl rfl | exact .inr rfl | assumption) :
    BB X ρ (.If c [.Assign [.Name x pos'] e pos] [] pos2 :: rest) E := by
  refine bb_if0 hc (fun hb => ?_) (fun hb => ?_)
  · exact bb_setX i hN hi hx (h1 hb) (fun d hd => bb_nil (h d hd)) hs hf
  · obtain ⟨d', hd, he⟩ := h0 hb
    have := h d' hd
    rw [set_same he] at this
    exact this
end
end DL
namespace K53
open PySem PySem.Spec PyProof.Rows L2 DL Q
section
variable {P : Program} {w : World} {K : PySem.W.Frag} {mg : Str → Option Value} {base : Heap} {f : Addr} {fd : FuncData} {aR aC aT : Addr}
/-- one of the three heads -/
def hd3 (ns : List Str) (cs : List Int) (h : Hd) : Prop := ∃ (k : Nat) (x : Str) (c : Int), k < 3 ∧ ns[k]? = some x ∧ cs[k]? = some c ∧ h = (x, c)
structure RuP (ns : List Str) (cs : List Int) (p : PyData × PyData) : Prop where
  ok : RuleOk p
  h3 : hd3 ns cs (hdOf p.1)
def S_lrule : List Ty → Ty → Prop := fun Ts T => ∃ (n : Int) (ns : List Str) (cs : List Int), NumOk n ∧ Nm5 ns ∧ CtOk cs ∧ Ts = [D (.int n), D (namesD ns), D (ctsD cs)] ∧ T = Ex (fun d => ∃ p, RuP ns cs p ∧ d = ruleD p)
theorem sc_lrule : FnScope ["_law_number", "_law_names_here", "_law_counts", "_law_which", "_law_first", "_law_places", "_law_k", "_law_call_here", "_law_way"] ["_law_number", "_law_names_here", "_law_counts"] (defScope sLawRule) := ⟨rfl, rfl, rfl, by decide +kernel, rfl, by decide +kernel, by decide +kernel⟩
theorem ok_lrule (B : Bi mg) (G1 : Fn P w K mg base 1 "_law_place" S_place) (G2 : Fn P w K mg base 1 "_law_mixed" S_mixed) (G3 : Fn P w K mg base 2 "_law_call" S_lcall) (F : FnP K "_law_rule" "_law_rule" sLawRule f fd) : FnOk P w K mg base CX0 3 f fd ["_law_number", "_law_names_here", "_law_counts"] (spS S_lrule) := by
  refine fn_ok F sc_lrule (by rintro _ _ ⟨_, _, _, _, _, _, rfl, rfl⟩; rfl) ?_
  rintro cdv A outer s H E hr _ _ ⟨n, ns, cs, hnum, nok, cok, rfl, rfl⟩
  have h1 : Room 1 _ := hr.mono (by decide)
  have hn := sc_lrule.nd
  have w0 := Int.emod_nonneg n (show (3 : Int) ≠ 0 by decide)
  have w1 := Int.emod_lt_of_pos n (show (0 : Int) < 3 by decide)
  obtain ⟨xw, hxw, exw', exw⟩ := nm_at nok w0 (by omega)
  obtain ⟨x4, hx4, _, ex4⟩ := nm_at nok (i := 4) (by decide) (by decide)
  obtain ⟨x3, hx3, _, ex3⟩ := nm_at nok (i := 3) (by decide) (by decide)
  obtain ⟨c, c0, c3, ec', ec⟩ := ct_at cok w0 w1
  refine bb_asg (e_divmod B.divmod (ee_v 0 rfl) ee_int (by decide) (by decide)) (gg_pair rfl (gg_name 0 hn rfl (.inl rfl)) (gg_name 3 hn rfl (.inl rfl))) ?_
  have hnum3 := div_num hnum (j := 3) (by decide)
  generalize n / 3 = m at hnum3 ⊢
  refine bb_set 4 hn rfl (.inl rfl) (e_mod (ee_v 0 rfl) ee_int (by decide)) ?_
  refine bb_set 0 hn rfl (.inl rfl) (e_div (ee_v 0 rfl) ee_int (small_lg (by decide) (by decide))) ?_
  have hnumq := div_num hnum3 (j := 1000) (by decide)
  have f0 := Int.emod_nonneg m (show (1000 : Int) ≠ 0 by decide)
  generalize m / 1000 = q at hnumq ⊢
  generalize m % 1000 = fi at f0 ⊢
  refine bb_setO 5 hn rfl (.inl rfl) (eo_lst ead_nil) ?_
  refine bb_for (fun i ρ => ∃ (ds : List PyData) (x y z : Sl), ds.length = i ∧ (∀ d ∈ ds, PlP 3 3 (fun j => ∃ p ∈ ds, PyData.int j ∈ parts p) d) ∧ ρ = [.va (D (.int q)), .va (D (namesD ns)), .va (D (ctsD cs)), .va (D (.int (n % 3))), .va (D (.int fi)), .ow (OwnL ds), x, y, z]) PassesOwn.never rfl
    (it_range1 (n := c) B.range (e_ixL (ee_v 2 rfl) (ee_v 3 rfl) ec) (by omega) (by omega)) ⟨[], _, _, _, rfl, (fun d hd => nomatch hd), rfl⟩ ?_ ?_
  · rintro i T ρ' hT ⟨ds, x, y, z, hdl, hdp, rfl⟩
    obtain ⟨hi, rfl⟩ := rangeT_at hT
    refine ⟨_, _, gg_name 6 hn rfl (.inl rfl), ?_⟩
    have b0 := Int.emod_nonneg (fi + (0 + (i : Nat)) * 7) (show (1000 : Int) ≠ 0 by decide)
    have b1 := Int.emod_lt_of_pos (fi + (0 + (i : Nat)) * 7) (show (0 : Int) < 1000 by decide)
    refine bb_appendX 5 rfl (by omega) (ee_call G1 h1 (ea_cons (ee_call G2 h1 (ea_cons (ee_v 0 rfl) (ea_cons (ee_v 6 rfl) ea_nil)) ⟨q, _, hnumq, by omega, by omega, rfl, rfl⟩) (ea_cons (ee_v 1 rfl) (ea_cons (e_mod (e_add (ee_v 4 rfl) (e_mul (ee_v 6 rfl) ee_int ?_)) ee_int (by decide)) ea_nil))) ⟨_, ns, _, nok, b0, by omega, rfl, rfl⟩) (fun d hd => bb_nil ⟨ds ++ [d], .va (D (.int (0 + (i : Nat)))), y, z, by rw [List.length_append, hdl]; rfl, fun e he => ?_, rfl⟩)
    · have := lgI (k := 20) (x := 0 + (i : Int)) (by decide) (by omega) (by omega)
      have := lgI (k := 20) (x := 7) (by decide) (by decide) (by decide)
      show _ + _ < 1000000
      omega
    · rcases List.mem_append.mp he with u | u
      · exact (hdp e u).mono (Nat.le_refl _) (Nat.le_refl _) fun j ⟨p, hp, hj⟩ => ⟨p, List.mem_append_left _ hp, hj⟩
      · rw [List.mem_singleton.mp u]
        exact ⟨hd.tm, hd.lv, hd.ct, fun j hj => ⟨d, List.mem_append_right _ List.mem_cons_self, hj⟩⟩
  · rintro ρ' ⟨ds, x, y, z, hdl, hdp, rfl⟩
    rw [rangeT_length] at hdl
    have hl3 : ds.length ≤ 3 := by omega
    refine bb_fixL 5 rfl ?_
    have hm5 := mixed_num q 5
    have hm6 := mixed_num q 6
    refine bb_setX (P := ClP 3 3 fun j => ∃ p ∈ ds, PyData.int j ∈ parts p) 7 hn rfl (.inl rfl) (ee_call G3 hr (ea_cons (ee_call G2 h1 (ea_cons (ee_v 0 rfl) (ea_cons ee_int ea_nil)) ⟨q, 5, hnumq, by decide, by decide, rfl, rfl⟩) (ea_cons (ee_v 1 rfl) (ea_cons (ee_v 2 rfl) (ea_cons (ee_v 5 rfl) ea_nil)))) ⟨_, ns, cs, ds, 3, 3, _, hm5, nok, cok, by decide, by decide, by decide, by omega, hdp, rfl, rfl⟩) (fun ch hch => ?_)
    have p0 : PlP 8 100 (fun j => ∃ p ∈ ds, PyData.int j ∈ parts p) ch := hch.p.mono (by decide) (by decide) fun _ h => h
    generalize hbl : (fun j => ∃ p ∈ ds, PyData.int j ∈ parts p) = bl at hdp hch p0
    refine bb_set 8 hn rfl (.inl rfl) (e_mod (ee_v 0 rfl) ee_int (by decide)) ?_
    -- way 3
    refine bb_ifset (fun d => PlP 6 14 bl d ∧ (q % 7 = 5 → PlP 5 13 bl d)) 7 hn rfl (.inl rfl) (t_eqI (ee_v 8 rfl) ee_int) (fun hw => ⟨.tuple [.str x3, ch], ?_, ee_tup (ead_cons (e_ixL (ee_v 1 rfl) ee_int ex3) (ead_cons (ee_v 7 rfl) ead_nil))⟩) (fun hw => ⟨ch, ⟨hch.p.mono (by decide) (by decide) fun _ h => h, fun _ => hch.p⟩, rfl⟩) (fun d3 hd3 => ?_)
    · exact ⟨(PlP.app (L := 5) (C := 13) (as := [ch]) hx3 (by simp) fun a ha => by rw [List.mem_singleton.mp ha]; exact hch.p).mono (by decide) (by simp) fun _ h => h, fun h5 => by have := of_decide_eq_true hw; omega⟩
    -- way 4
    refine bb_ifsetX (fun d => PlP 7 50 bl d ∧ (q % 7 = 5 → PlP 5 13 bl d)) 7 hn rfl (.inl rfl) (t_eqI (ee_v 8 rfl) ee_int) (fun hw => ?_) (fun hw => ⟨d3, ⟨hd3.1.mono (by decide) (by decide) fun _ h => h, hd3.2⟩, rfl⟩) (fun d4 hd4 => ?_)
    · refine EE.le (ee_tupT (Ts := [D (.str x4), Ex (ClP 3 3 bl), D d3]) (ea_cons (e_ixL (ee_v 1 rfl) ee_int ex4) (ea_cons (ee_call G3 hr (ea_cons (ee_call G2 h1 (ea_cons (ee_v 0 rfl) (ea_cons ee_int ea_nil)) ⟨q, 6, hnumq, by decide, by decide, rfl, rfl⟩) (ea_cons (ee_v 1 rfl) (ea_cons (ee_v 2 rfl) (ea_cons (ee_v 5 rfl) ea_nil)))) ⟨_, ns, cs, ds, 3, 3, bl, hm6, nok, cok, by decide, by decide, by decide, by omega, hdp, rfl, rfl⟩) (ea_cons (ee_v 7 rfl) ea_nil)))) fun H v hv => ?_
      obtain ⟨a, xs, rfl, ha, ht⟩ := hv
      cases ht with
      | cons t1 t2 =>
        cases t2 with
        | cons t2 t3 =>
          cases t3 with
          | cons t3 t4 =>
            cases t4
            obtain ⟨d, hd, hv⟩ := t2
            refine ⟨.tuple [.str x4, d, d3], ?_, .tup ha (.cons t1 (.cons hv (.cons t3 .nil)))⟩
            refine ⟨(PlP.app (L := 6) (C := 14) (as := [d, d3]) hx4 (by simp) fun a ha => ?_).mono (by decide) (by simp) fun _ h => h, fun h5 => by have := of_decide_eq_true hw; omega⟩
            simp only [List.mem_cons, List.not_mem_nil, or_false] at ha
            rcases ha with rfl | rfl
            · exact hd.p.mono (by decide) (by decide) fun _ h => h
            · exact hd3.1
    -- way 5
    refine bb_ifsetX (PlP 8 1000 bl) 7 hn rfl (.inl rfl) (t_eqI (ee_v 8 rfl) ee_int) (fun hw => ?_) (fun hw => ⟨d4, hd4.1.mono (by decide) (by decide) fun _ h => h, rfl⟩) (fun d5 hd5 => ?_)
    · have h5 := hd4.2 (of_decide_eq_true hw)
      refine EE.exle (ee_call G3 hr (ea_cons (ee_call G2 h1 (ea_cons (ee_v 0 rfl) (ea_cons ee_int ea_nil)) ⟨q, 6, hnumq, by decide, by decide, rfl, rfl⟩) (ea_cons (ee_v 1 rfl) (ea_cons (ee_v 2 rfl) (ea_cons (e_catL (ee_v 5 rfl) (ee_lst (ead_cons (ee_v 7 rfl) ead_nil)) ?_) ea_nil))))
        ⟨_, ns, cs, ds ++ [d4], 5, 13, bl, hm6, nok, cok, by decide, by decide, by decide, ?_, fun d hd => ?_, rfl, rfl⟩) fun d hd => hd.p.mono (by decide) (by decide) fun _ h => h
      · show ds.length + 1 ≤ 100000
        omega
      · rw [List.length_append, List.length_singleton]
        omega
      · rcases List.mem_append.mp hd with z | z
        · exact (hdp d z).mono (by decide) (by decide) fun _ h => h
        · rw [List.mem_singleton.mp z]
          exact h5
    · refine bb_ret (EE.ex (ee_tup (ead_cons (e_tuple B.tuple (e_catL (ee_lst (ead_cons (e_ixL (ee_v 1 rfl) (ee_v 3 rfl) exw) ead_nil)) (ee_v 5 rfl) ?_)) (ead_cons (ee_v 7 rfl) ead_nil))) ⟨(.tuple (.str xw :: ds), d5), ⟨⟨?_, hd5.tm, rfl, ?_, hd5.lv, ?_, hd5.ct, fun i hi => ?_⟩, ?_⟩, rfl⟩)
      · show 1 + ds.length ≤ 100000
        omega
      · exact (PlP.app (as := ds) hxw (by omega) hdp).tm
      · have := (PlP.app (as := ds) hxw (by omega) hdp).lv
        show lev (.tuple (.str xw :: ds)) ≤ 8
        omega
      · have := (PlP.app (as := ds) hxw (by omega) hdp).ct
        show cnt (.tuple (.str xw :: ds)) ≤ 1000
        omega
      · have hb := hd5.bk i hi
        rw [← hbl] at hb
        obtain ⟨p, hp, hj⟩ := hb
        show PyData.int i ∈ parts (.tuple (.str xw :: ds))
        rw [parts_app]
        exact List.mem_cons_of_mem _ (partsL_in hp hj)
      · refine ⟨(n % 3).toNat, xw, c, by omega, exw', ec', ?_⟩
        show (xw, ((ds.length : Nat) : Int)) = (xw, c)
        rw [hdl]
        rw [Int.toNat_of_nonneg c0]
end
end K53

set_option Elab.async false
set_option linter.all false
set_option maxRecDepth 100000
set_option maxHeartbeats 4000000
namespace Q
open PySem DL
def hdsL (ps : List PyData) : List Hd := (ps.filter isApp).map hdOf
def headsOf (d : PyData) : List Hd := hdsL (parts d)
theorem hdsL_app (a b : List PyData) : hdsL (a ++ b) = hdsL a ++ hdsL b := by unfold hdsL; rw [List.filter_append, List.map_append]
theorem len_hdsL (ps : List PyData) : (hdsL ps).length ≤ ps.length := by
  unfold hdsL
  rw [List.length_map]
  exact List.length_filter_le _ _
theorem partsL_snoc : ∀ (as : List PyData) (a : PyData), partsL (as ++ [a]) = partsL as ++ parts a
  | [], a => by rw [List.nil_append, partsL, partsL, partsL, List.append_nil, List.nil_append]
  | x :: as, a => by rw [List.cons_append, partsL, partsL, partsL_snoc as a, List.append_assoc]
end Q
namespace K53
open PySem PySem.Spec PyProof.Rows L2 DL Q
section
variable {P : Program} {w : World} {K : PySem.W.Frag} {mg : Str → Option Value} {base : Heap} {f : Addr} {fd : FuncData} {aR aC aT : Addr}
/-! _law_head -/
def S_lhead : List Ty → Ty → Prop := fun Ts T => ∃ (s : Str) (as : List PyData), Ts = [D (.tuple (.str s :: as))] ∧ T = D (hdD (s, (as.length : Nat)))
theorem sc_lhead : FnScope ["_law_term"] ["_law_term"] (defScope sLawHead) := ⟨rfl, rfl, rfl, by decide +kernel, rfl, by decide +kernel, by decide +kernel⟩
theorem ok_lhead (B : Bi mg) (F : FnP K "_law_head" "_law_head" sLawHead f fd) : FnOk P w K mg base CX0 1 f fd ["_law_term"] (spS S_lhead) := by
  refine fn_ok F sc_lhead (by rintro _ _ ⟨_, _, rfl, rfl⟩; rfl) ?_
  rintro cdv A outer s H E hr _ _ ⟨x, as, rfl, rfl⟩
  refine bb_ret (EE.d (ee_tup (ead_cons (e_ixT (ee_v 0 rfl) ee_int (at_ 0 rfl rfl)) (ead_cons (e_sub (e_lenT B.len (ee_v 0 rfl)) ee_int) ead_nil))) ?_)
  show PyData.tuple [.str x, .int (((as.length + 1 : Nat) : Int) - 1)] = .tuple [.str x, .int (as.length : Nat)]
  rw [show (((as.length + 1 : Nat) : Int) - 1) = ((as.length : Nat) : Int) by omega]
/-! _law_heads -/
def S_heads (n : Nat) : List Ty → Ty → Prop := fun Ts T => ∃ d : PyData, Tm d ∧ lev d ≤ n ∧ cnt d ≤ 1000 ∧ Ts = [D d] ∧ T = D (.list ((headsOf d).map hdD))
theorem sc_heads : FnScope ["_law_term", "_law_found", "_law_place_here"] ["_law_term"] (defScope sLawHeads) := ⟨rfl, rfl, rfl, by decide +kernel, rfl, by decide +kernel, by decide +kernel⟩
theorem ok_heads (B : Bi mg) (G1 : Fn P w K mg base 1 "_law_whole" S_whole) (G2 : Fn P w K mg base 1 "_law_head" S_lhead) (F : FnP K "_law_heads" "_law_heads" sLawHeads f fd) (hm : mg "_law_heads" = some (.ref f)) (b : Binds K fd ["_law_term"] []) :
    ∀ n : Nat, FnOk P w K mg base CX0 (n + 1) f fd ["_law_term"] (spS (S_heads n))
  | 0 => by
    refine fn_ok F sc_heads (by rintro _ _ ⟨_, _, _, _, rfl, rfl⟩; rfl) ?_
    rintro cdv A outer s H E hr _ _ ⟨d, _, h, _⟩
    have := lev_pos d
    omega
  | n + 1 => by
    have ih : Fn P w K mg base (n + 1) "_law_heads" (S_heads n) := fn_mk F (ok_heads B G1 G2 F hm b n) hm b
    refine fn_ok F sc_heads (by rintro _ _ ⟨_, _, _, _, rfl, rfl⟩; rfl) ?_
    rintro cdv A outer s H E hr _ _ ⟨d, hd, hl, hc, rfl, rfl⟩
    have h1 : Room 1 _ := hr.mono (by omega)
    have hn := sc_heads.nd
    rcases hd.cases_ with ⟨i, rfl, h0, h9⟩ | ⟨x, as, rfl, hs, hal, ha⟩
    · refine bb_if0 (b := true) (et_val (ee_call G1 h1 (ea_cons (ee_v 0 rfl) ea_nil) ⟨_, rfl, rfl⟩)) (fun _ => ?_) (fun e => nomatch e)
      refine bb_ret (EE.d (ee_lst ead_nil) ?_)
      unfold headsOf
      rw [parts]
      rfl
    · refine bb_skip (ET.to (et_val (ee_call G1 h1 (ea_cons (ee_v 0 rfl) ea_nil) ⟨_, rfl, rfl⟩)) rfl) ?_
      rw [lev_app] at hl
      rw [cnt_app] at hc
      refine bb_setO 1 hn rfl (.inl rfl) (eo_lst (ead_cons (ee_call G2 h1 (ea_cons (ee_v 0 rfl) ea_nil) ⟨x, as, rfl, rfl⟩) ead_nil)) ?_
      have hh : headsOf (.tuple (.str x :: as)) = (x, ((as.length : Nat) : Int)) :: hdsL (partsL as) := by
        unfold headsOf
        rw [parts_app]
        rfl
      refine bb_for (fun i ρ => ∃ v : Sl, ρ = [.va (D (.tuple (.str x :: as))), .ow (OwnL (((x, ((as.length : Nat) : Int)) :: hdsL (partsL (as.take i))).map hdD)), v]) PassesOwn.never rfl
        (it_tupD (EE.d (ee_sl sl_tupA (ee_v 0 rfl) (ep_some ee_int) ep_none rs_T) (by rw [cut_one]))) ⟨_, rfl⟩ ?_ ?_
      · rintro i T ρ' hT ⟨v, rfl⟩
        rw [List.getElem?_map] at hT
        cases hi : as[i]? with
        | none => rw [hi] at hT; cases hT
        | some a =>
          rw [hi] at hT
          rw [← Option.some.inj hT]
          have hm := List.mem_of_getElem? hi
          have l1 := levL_mem hm
          have l2 := cntL_mem hm
          have l3 := cntL_le (as := as) i
          have l4 := len_hdsL (partsL (as.take i))
          rw [partsL_len] at l4
          have l5 := len_hdsL (parts a)
          rw [parts_len] at l5
          refine ⟨_, _, gg_name 2 hn rfl (.inl rfl), ?_⟩
          refine bb_extend 1 rfl ?_ (ee_call ih hr (ea_cons (ee_v 2 rfl) ea_nil) ⟨a, ha a hm, by omega, by omega, rfl, rfl⟩) (bb_nil ⟨.va (D a), ?_⟩)
          · rw [List.length_map, List.length_cons, List.length_map]
            unfold headsOf
            omega
          · rw [List.take_succ, hi]
            show _ = [_, Sl.ow (OwnL (((x, ((as.length : Nat) : Int)) :: hdsL (partsL (as.take i ++ [a]))).map hdD)), _]
            rw [partsL_snoc, hdsL_app, List.map_cons, List.map_cons, List.map_append]
            rfl
      · rintro ρ' ⟨v, rfl⟩
        rw [List.length_map, List.take_length]
        exact bb_fixL 1 rfl (bb_ret (EE.d (ee_v 1 rfl) (by rw [hh])))
end
end K53

set_option Elab.async false
set_option linter.all false
set_option maxRecDepth 100000
set_option maxHeartbeats 4000000
/-! sets of at most four tuples of texts and whole numbers: the table never grows (its mask stays 7). The way of a search over the table is HandS.TupSets' (TabOk, go_spec, way), said there of tuples of whole numbers; here of heads. -/
namespace HSet
open PySem PySem.Spec PyProof.Rows L2
section
variable {P : Program} {w : World} {A : Around} {E : Value → Shared → Prop} {s : Shared}
abbrev IsK (P : Program) (w : World) (h : Heap) (k : List L2.Key) (b : Addr) : Prop := IsTupleKey (L2.mixKind P w) h k b
abbrev kh (P : Program) (w : World) (k : List L2.Key) : Int := tupleKeyHash (L2.mixKind P w) k
theorem items_mix {k : List L2.Key} {vs : List Value} (h : ItemsAre (L2.mixKind P w) k vs) : ∀ v ∈ vs, (∃ i t, v = Value.int i t) ∨ ∃ x t, v = Value.str x t := by
  induction h with
  | nil => intro v hv; cases hv
  | @cons k0 v' ks vs h1 _ ih =>
    intro v hv
    rcases List.mem_cons.mp hv with e | hv
    · rcases L2.keyIs_shape h1 with ⟨i, t, _, e2⟩ | ⟨x, t, _, e2⟩
      · exact .inl ⟨i, t, e.trans e2⟩
      · exact .inr ⟨x, t, e.trans e2⟩
    · exact ih v hv
theorem noCls (n : Nat) {v : Value} (h : (∃ i t, v = Value.int i t) ∨ ∃ x t, v = Value.str x t) : ofAClassStatement n v = pure false := by
  rcases h with ⟨i, t, rfl⟩ | ⟨x, t, rfl⟩ <;> cases n <;> rfl
theorem byVal (n : Nat) {v : Value} (h : (∃ i t, v = Value.int i t) ∨ ∃ x t, v = Value.str x t) : ∃ b, hashByValue n v = pure b := by
  rcases h with ⟨i, t, rfl⟩ | ⟨x, t, rfl⟩
  · exact ⟨_, hashByValue_scannable n rfl⟩
  · exact ⟨_, hashByValue_scannable n rfl⟩
theorem noCls_tup {k : List L2.Key} {b : Addr} {Q : Bool → Shared → Prop} (hk : IsK P w s.heap k b) (h : Q false s) : wpAny (model P w) A (ofAClassStatement 8 (.ref b)) Q E s := by
  have hT := hk.typeIs
  obtain ⟨o, items, n, ho, _, hd, hi⟩ := hk
  unfold ofAClassStatement
  refine wpAny_bind (wpAny_typeOf hT ?_)
  dsimp only
  have e : (("tuple" : String) == "tuple") = true := by decide
  simp only [e, if_true, Bool.not_true, Bool.false_eq_true, if_false]
  try refine wpAny_bind (wpAny_pure ?_)
  try simp only [Bool.not_true, Bool.false_eq_true, if_false]
  show wpAny _ _ (seqItems? (.ref b) >>= _) _ _ s
  refine wpAny_bind (wpAny_seqItems ho hd ?_)
  dsimp only
  refine wpAny_bind ?_
  show wpAny _ _ (forIn items _ _) _ _ s
  rw [← Array.forIn_toList]
  refine wpAny_forIn_list _ (fun rest r s' => r.1 = none ∧ s' = s ∧ ∀ v ∈ rest, (∃ i t, v = Value.int i t) ∨ ∃ x t, v = Value.str x t) _ ?_ ?_ _ _ ⟨rfl, rfl, items_mix hi⟩
  · rintro v rest r s' ⟨hr, rfl, hall⟩
    rw [noCls _ (hall v List.mem_cons_self)]
    refine wpAny_bind (wpAny_pure ?_)
    simp only [Bool.false_eq_true, if_false]
    exact wpAny_pure ⟨rfl, rfl, fun u hu' => hall u (List.mem_cons_of_mem _ hu')⟩
  · rintro ⟨r1, r2⟩ s' ⟨hr, rfl, _⟩
    simp only at hr
    subst hr
    exact wpAny_pure h
theorem byVal_tup {k : List L2.Key} {b : Addr} {Q : Bool → Shared → Prop} (hk : IsK P w s.heap k b) (h : ∀ q, Q q s) : wpAny (model P w) A (hashByValue 8 (.ref b)) Q E s := by
  have hT := hk.typeIs
  obtain ⟨o, items, n, ho, _, hd, hi⟩ := hk
  unfold hashByValue
  refine wpAny_bind (wpAny_specialOf hT F.slot_tuple_hash.lookup ?_)
  show wpAny _ _ (seqItems? (.ref b) >>= _) _ _ s
  refine wpAny_bind (wpAny_seqItems ho hd ?_)
  refine wpAny_bind ?_
  show wpAny _ _ (forIn items _ _) _ _ s
  rw [← Array.forIn_toList]
  refine wpAny_forIn_list _ (fun rest r s' => s' = s ∧ ∀ v ∈ rest, (∃ i t, v = Value.int i t) ∨ ∃ x t, v = Value.str x t) _ ?_ ?_ _ _ ⟨rfl, items_mix hi⟩
  · rintro v rest r s' ⟨rfl, hall⟩
    obtain ⟨q, e⟩ := byVal 7 (hall v List.mem_cons_self)
    rw [e]
    refine wpAny_bind (wpAny_pure ?_)
    cases q
    · simp only [Bool.not_false, if_true]
      exact wpAny_pure (wpAny_pure (h _))
    · simp only [Bool.not_true, Bool.false_eq_true, if_false]
      exact wpAny_pure ⟨rfl, fun u hu' => hall u (List.mem_cons_of_mem _ hu')⟩
  · rintro ⟨r1, r2⟩ s' ⟨rfl, _⟩
    simp only
    cases r1 with
    | none => exact wpAny_pure (h _)
    | some b => exact wpAny_pure (h _)
theorem seen {k : List L2.Key} {b : Addr} {Q : Bool → Shared → Prop} (hk : IsK P w s.heap k b) {ys : List Value} (hy : ∀ y ∈ ys, ∃ k' c, y = Value.ref c ∧ IsK P w s.heap k' c) (h : Q false s) :
    wpAny (model P w) A (searchCouldBeSeen (.ref b) ys) Q E s := by
  unfold searchCouldBeSeen
  refine wpAny_bind ?_
  refine wpAny_forIn_list _ (fun rest r s' => r.1 = none ∧ s' = s ∧ ∀ y ∈ rest, ∃ k' c, y = Value.ref c ∧ IsK P w s.heap k' c) _ ?_ ?_ _ _ ⟨rfl, rfl, hy⟩
  · rintro v rest r s' ⟨hr, rfl, hall⟩
    obtain ⟨k', c, rfl, hc⟩ := hall v List.mem_cons_self
    have rest' : ∀ y ∈ rest, ∃ k' c, y = Value.ref c ∧ IsK P w s'.heap k' c := fun u hu' => hall u (List.mem_cons_of_mem _ hu')
    dsimp only
    by_cases hv : (b == c || (carriedByValue (.ref b) && carriedByValue (.ref c))) = true
    · exact wp_if_pos hv (wpAny_pure ⟨rfl, rfl, rest'⟩)
    · refine wp_if_neg hv ?_
      refine wpAny_bind (wpAny_eqIsQuiet_tuple hk ?_)
      simp only [Bool.not_true, Bool.false_eq_true, if_false]
      refine wpAny_bind (wpAny_eqIsQuiet_tuple hc ?_)
      simp only [Bool.not_true, Bool.false_eq_true, if_false]
      refine wpAny_bind (noCls_tup hk ?_)
      simp only [Bool.false_eq_true, if_false]
      refine wpAny_bind (noCls_tup hc ?_)
      simp only [Bool.false_eq_true, if_false]
      exact wpAny_pure ⟨rfl, rfl, rest'⟩
  · rintro ⟨r1, r2⟩ s' ⟨hr, rfl, _⟩
    simp only at hr
    subst hr
    exact wpAny_pure h
/-! the set -/
abbrev KL := List (Addr × List L2.Key)
def rowsK (P : Program) (w : World) (L : KL) : List (Int × Value) := L.map fun p => (kh P w p.2, Value.ref p.1)
structure SK (P : Program) (w : World) (h : Heap) (a : Addr) (L : KL) (es : Array (Int × Value)) (ep : Nat) (t : SetTable) : Prop where
  ob : ∃ o, h.get? a = some o ∧ o.ExactSet ∧ o.data = .set es ep t
  rows : es.toList = rowsK P w L
  tab : TabOk t (L.map fun p => kh P w p.2)
  nd : (L.map (·.2)).Nodup
  tup : ∀ p ∈ L, IsK P w h p.2 p.1
  led : w.params.followText "set-order" = true ∨ t.led = true
  m7 : t.mask = 7
  few : L.length ≤ 4
variable {a : Addr} {L : KL} {es : Array (Int × Value)} {ep : Nat} {t : SetTable}
theorem SK.size (R : SK P w s.heap a L es ep t) : es.size = L.length := by
  have h := congrArg List.length R.rows
  unfold rowsK at h
  rw [Array.length_toList, List.length_map] at h
  exact h
theorem SK.fits (R : SK P w s.heap a L es ep t) : t.fits es.size = true := by
  have h1 := R.tab.sz
  rw [List.length_map] at h1
  have h2 := R.size
  have h3 := R.few
  have h4 := R.m7
  unfold SetTable.fits SetTable.fill
  rw [R.tab.dm, Bool.and_eq_true, beq_iff_eq, decide_eq_true_eq]
  show t.place.size = es.size ∧ t.place.size + 0 ≤ t.mask
  omega
theorem SK.entry (R : SK P w s.heap a L es ep t) {i : Nat} {p : Addr × List L2.Key} (h : L[i]? = some p) : es[i]? = some (kh P w p.2, Value.ref p.1) := by
  rw [← Array.getElem?_toList, R.rows]
  unfold rowsK
  rw [List.getElem?_map, h] <;> rfl
theorem SK.gw (R : SK P w s.heap a L es ep t) : ¬ t.gaveWay = true := by
  unfold SetTable.gaveWay
  rw [mask_odd R.tab.mok]
  decide
abbrev st0 (m : Nat) (h : Int) : SetTable.Probe := runAt m (SetTable.bits h % (m + 1)) (SetTable.bits h)
/-- the search, from the c-th step of the way on -/
theorem find_from (R : SK P w s.heap a L es ep t) {x : Addr} {k : List L2.Key} (hx : IsK P w s.heap k x) (hu : A.units < cLine) {K : Nat} (hKf : K < 10 * SetTable.turns t.mask)
    (hK : way t.mask (kh P w k) K ∉ t.place.toList) (hKb : ∀ c, c < K → way t.mask (kh P w k) c ∈ t.place.toList) {Q : SetFound → Shared → Prop}
    (hin : k ∈ L.map (·.2) → Q (.there none) s) (hout : k ∉ L.map (·.2) → Q (.free (way t.mask (kh P w k) K) false) s) :
    ∀ (f c : Nat) (stand : Option SetTable.Probe), stand.getD (t.probeStart (kh P w k)) = nth t.mask (st0 t.mask (kh P w k)) c → c ≤ K → K - c < f →
      (∀ (i : Nat) p, L[i]? = some p → p.2 = k → ∃ c', c ≤ c' ∧ c' < K ∧ t.place.toList[i]? = some (way t.mask (kh P w k) c')) →
      wpAny (model P w) A (setSearchFrom a (.ref x) (kh P w k) true f stand) Q E s
  | 0, c, stand, _, _, hf, _ => absurd hf (Nat.not_lt_zero _)
  | f + 1, c, stand, hst, hc, hf, hre => by
    obtain ⟨o, ho, hex, hd⟩ := R.ob
    rw [setSearchFrom_succ]
    refine wpAny_bind (wpAny_setState_of ho hd R.fits ?_)
    dsimp only
    refine wp_if_neg R.gw ?_
    try refine wpAny_bind (wpAny_pure ?_)
    have hnd : (nth t.mask (st0 t.mask (kh P w k)) c).dummy = none := by
      have key : ∀ (n : Nat) (p : SetTable.Probe), p.dummy = none → (nth t.mask p n).dummy = none := by
        intro n
        induction n with
        | zero => intro p h; exact h
        | succ n ih =>
          intro p h
          refine ih (adv t.mask p) ?_
          unfold adv
          split <;> exact h
      exact key c _ rfl
    have sh : ∀ q, nth t.mask (nth t.mask (st0 t.mask (kh P w k)) c) q = nth t.mask (st0 t.mask (kh P w k)) (c + q) := fun q => (nth_add t.mask c _ q).symm
    have e1 : ∀ q, (nth t.mask (nth t.mask (st0 t.mask (kh P w k)) c) q).j = way t.mask (kh P w k) (c + q) := fun q => congrArg SetTable.Probe.j (sh q)
    have spec := go_spec t R.tab.ris R.tab.dm (fun i => (es[i]?.map (·.1)).getD 0) (kh P w k) (10 * SetTable.turns t.mask) (K - c) _ hnd (by omega)
      (fun q hq => by rw [e1]; exact hKb (c + q) (by omega)) (by rw [e1, show c + (K - c) = K by omega]; exact hK)
    have hashAt : ∀ (i : Nat) p, L[i]? = some p → (fun i => (es[i]?.map (·.1)).getD 0) i = kh P w p.2 := fun i p hp => by
      show (es[i]?.map (·.1)).getD 0 = _
      rw [R.entry hp] <;> rfl
    rcases spec with ⟨q, i, hq, hi, hh, hno, hpr⟩ | ⟨hno, hpr⟩
    · have hpr' : t.probe (fun i => (es[i]?.map (·.1)).getD 0) (kh P w k) (stand.getD (t.probeStart (kh P w k))) = some (.candidate (way t.mask (kh P w k) (c + q)) i (nth t.mask (st0 t.mask (kh P w k)) (c + (q + 1)))) := by
        rw [hst, ← e1, ← sh]
        exact hpr
      rw [hpr']
      dsimp only
      rw [e1] at hi
      have hil : i < L.length := by
        have h1 : i < t.place.toList.length := (List.getElem?_eq_some_iff.mp hi).1
        have h2 := R.tab.sz
        rw [List.length_map] at h2
        rw [Array.length_toList] at h1
        omega
      have hp : L[i]? = some L[i] := List.getElem?_eq_getElem hil
      generalize hpe : L[i] = p at hp
      have hmem : p ∈ L := List.mem_of_getElem? hp
      have hpt := R.tup p hmem
      have rest : wpAny (model P w) A (searchRest a (.ref x) (kh P w k) true f es t (way t.mask (kh P w k) (c + q)) i (nth t.mask (st0 t.mask (kh P w k)) (c + (q + 1)))) Q E s := by
        unfold searchRest
        rw [R.entry hp]
        dsimp only
        refine wpAny_bind (wpAny_holding (wpAny_eqBool_tuple hu hpt hx ?_))
        refine wpAny_bind (wpAny_setState_of ho hd R.fits ?_)
        dsimp only
        by_cases hkk : p.2 = k
        · exact wp_if_pos (by simp [hkk]) (wpAny_pure (hin (List.mem_map.mpr ⟨p, hmem, hkk⟩)))
        · refine wp_if_neg (by simp [hkk]) ?_
          try refine wpAny_bind (wpAny_pure ?_)
          rw [sameMem]
          dsimp only
          have hsl : t.slot (way t.mask (kh P w k) (c + q)) = .live i := slot_live R.tab.ris hi
          simp only [if_true, hsl, R.entry hp]
          refine wpAny_bind (wpAny_isSame_ref_self (wpAny_bind (wpAny_pure ?_)))
          simp only [if_true]
          refine wp_if_neg (by simp [hkk]) ?_
          refine find_from R hx hu hKf hK hKb hin hout f (c + (q + 1)) _ rfl (by omega) (by omega) fun i0 p0 h0 hk0 => ?_
          obtain ⟨c', a1, a2, a3⟩ := hre i0 p0 h0 hk0
          refine ⟨c', ?_, a2, a3⟩
          rcases Nat.lt_or_ge c' (c + q) with z | z
          · exfalso
            refine hno (c' - c) i0 (by omega) (by rw [e1, show c + (c' - c) = c' by omega]; exact a3) ?_
            exact (hashAt i0 p0 h0).trans (congrArg (kh P w) hk0)
          · rcases Nat.lt_or_ge (c + q) c' with y | y
            · omega
            · exfalso
              have ec : c' = c + q := Nat.le_antisymm y z
              rw [ec] at a3
              have s0 := slot_live R.tab.ris a3
              rw [hsl] at s0
              injection s0 with s0
              rw [← s0, hp] at h0
              exact hkk ((congrArg Prod.snd (Option.some.inj h0)).trans hk0)
      by_cases hl : t.led = true
      · refine wp_if_neg (by simp [hl]) ?_
        try refine wpAny_bind (wpAny_pure ?_)
        exact rest
      · refine wp_if_pos (by simp [hl]) ?_
        refine wpAny_bind (seen hx (fun y hy => ?_) ?_)
        · obtain ⟨e, he, ee⟩ := List.mem_map.mp hy
          have he1 : e ∈ es ∧ e.1 = kh P w k := by simpa using he
          have he2 : e ∈ es.toList := by simpa using he1.1
          rw [R.rows] at he2
          obtain ⟨p2, hp2, e2⟩ := List.mem_map.mp he2
          refine ⟨p2.2, p2.1, ?_, R.tup p2 hp2⟩
          rw [← ee, ← e2]
        · refine wp_if_neg (by decide) ?_
          try refine wpAny_bind (wpAny_pure ?_)
          exact rest
    · have hpr' : t.probe (fun i => (es[i]?.map (·.1)).getD 0) (kh P w k) (stand.getD (t.probeStart (kh P w k))) = some (.empty (way t.mask (kh P w k) K) none) := by
        have e2 : way t.mask (kh P w k) K = (nth t.mask (nth t.mask (st0 t.mask (kh P w k)) c) (K - c)).j := by
          rw [e1, show c + (K - c) = K by omega]
        rw [hst, e2]
        exact hpr
      rw [hpr']
      dsimp only
      refine wpAny_pure (hout fun hm => ?_)
      obtain ⟨p0, h0, hk0⟩ := List.mem_map.mp hm
      obtain ⟨i0, hi0, e0⟩ := List.getElem_of_mem h0
      have h00 : L[i0]? = some p0 := by rw [List.getElem?_eq_getElem hi0, e0]
      obtain ⟨c', a1, a2, a3⟩ := hre i0 p0 h00 hk0
      refine hno (c' - c) i0 (by omega) (by rw [e1, show c + (c' - c) = c' by omega]; exact a3) ?_
      exact (hashAt i0 p0 h00).trans (congrArg (kh P w) hk0)
theorem find_at (R : SK P w s.heap a L es ep t) {x : Addr} {k : List L2.Key} (hx : IsK P w s.heap k x) (hu : A.units < cLine) {Q : SetFound → Shared → Prop}
    (hin : k ∈ L.map (·.2) → Q (.there none) s)
    (hout : ∀ K, k ∉ L.map (·.2) → way t.mask (kh P w k) K ∉ t.place.toList → (∀ c, c < K → way t.mask (kh P w k) c ∈ t.place.toList) → Q (.free (way t.mask (kh P w k) K) false) s) :
    wpAny (model P w) A (setSearch a (.ref x) (kh P w k) true) Q E s := by
  have h4 := R.few
  have h7 := R.m7
  obtain ⟨K, hKf, hK, hKb⟩ := R.tab.first (by rw [List.length_map]; omega) (kh P w k)
  have hbig : K < 100000 := by
    have : 10 * SetTable.turns t.mask ≤ 1420 := by
      unfold SetTable.turns
      omega
    omega
  unfold setSearch
  refine find_from R hx hu hKf hK hKb hin (fun hn => hout K hn hK hKb) 100000 0 none rfl (Nat.zero_le _) (by omega) fun i p hp hk => ?_
  have hi : (L.map fun p => kh P w p.2)[i]? = some (kh P w k) := by rw [List.getElem?_map, hp, ← hk] <;> rfl
  have hil : i < t.place.toList.length := by
    have h1 : i < L.length := (List.getElem?_eq_some_iff.mp hp).1
    have h2 := R.tab.sz
    rw [List.length_map] at h2
    rw [Array.length_toList]
    omega
  have hj := List.getElem?_eq_getElem hil
  obtain ⟨c, hc, e⟩ := R.tab.before hK hi hj
  exact ⟨c, Nat.zero_le _, hc, by rw [hj, e]⟩
theorem isK_same {h h' : Heap} {k : List L2.Key} {a b : Addr} {o : Obj} {es : Array (Int × Value)} {ep : Nat} {t : SetTable} (hb : IsK P w h k b) (ho : h.get? a = some o) (hd : o.data = .set es ep t) (hs : Heap.SameBut a h h') : IsK P w h' k b := by
  obtain ⟨o', items, n, ho', hc, hd', hi⟩ := hb
  have hne : b ≠ a := by
    rintro rfl
    obtain rfl : o' = o := Option.some.inj (ho'.symm.trans ho)
    rw [hd] at hd'
    exact nomatch hd'
  exact ⟨o', items, n, (hs.2 b hne).trans ho', hc, hd', hi⟩
/-- adding -/
theorem add_k (R : SK P w s.heap a L es ep t) {x : Addr} {k : List L2.Key} (hx : IsK P w s.heap k x) (hu : A.units < cLine) (hfew : k ∉ L.map (·.2) → L.length + 1 ≤ 4) {Q : Bool → Shared → Prop}
    (hQ : ∀ b h' L' es' ep' t', Heap.SameBut a s.heap h' → SK P w h' a L' es' ep' t' → (k ∈ L.map (·.2) → L' = L) → (k ∉ L.map (·.2) → L'.Perm ((x, k) :: L)) → Q b { s with heap := h' }) :
    wpAny (model P w) A (setAddHashed a (.ref x) (kh P w k)) Q E s := by
  obtain ⟨o, ho, hex, hd⟩ := R.ob
  have hsl := R.size
  unfold setAddHashed
  refine wpAny_holding ?_
  rw [show (100000 : Nat) = 99999 + 1 from rfl, setAddHashedIn_succ]
  refine wpAny_bind (wpAny_setState_of ho hd R.fits ?_)
  dsimp only
  refine wp_if_neg (by simp [byScan, Value.scannable]) ?_
  try refine wpAny_bind (wpAny_pure ?_)
  refine wpAny_bind (find_at R hx hu (fun hm => ?_) fun K hm hK hb => ?_)
  · dsimp only
    exact wpAny_pure (hQ false s.heap L es ep t (Heap.SameBut.refl a s.heap) R (fun _ => rfl) fun z => absurd hm z)
  · dsimp only
    refine wpAny_bind (wpAny_setState_of ho hd R.fits ?_)
    dsimp only
    obtain ⟨q1, q2, q3, q4, q5, q6, q7, q8, q9⟩ := R.tab.put hK hb
    generalize hpt : t.put (way t.mask (kh P w k) K) = pt at q1 q3 q4 q5 q6 q7 q8 q9 ⊢
    obtain ⟨t1, p⟩ := pt
    dsimp only at q1 q3 q4 q5 q6 q7 q8 q9 ⊢
    subst q1
    have hin : (SetTable.insertAt es (SetTable.below t.place (way t.mask (kh P w k) K)) (kh P w k, Value.ref x)).toList = rowsK P w (L.take (SetTable.below t.place (way t.mask (kh P w k) K)) ++ (x, k) :: L.drop (SetTable.below t.place (way t.mask (kh P w k) K))) := by
      rw [SetTable.toList_insertAt, R.rows]
      unfold rowsK
      rw [List.map_append, List.map_cons, List.map_take, List.map_drop]
    generalize hpp : SetTable.below t.place (way t.mask (kh P w k) K) = p at q2 q3 hin ⊢
    have pm := put_perm L p (x, k)
    have hlen : (L.take p ++ (x, k) :: L.drop p).length = L.length + 1 := pm.length_eq
    have hhs : (L.take p ++ (x, k) :: L.drop p).map (fun p => kh P w p.2) = (L.map fun p => kh P w p.2).take p ++ kh P w k :: (L.map fun p => kh P w p.2).drop p := by
      rw [List.map_append, List.map_cons, List.map_take, List.map_drop]
    rw [← hhs] at q3
    have nd1 : ((L.take p ++ (x, k) :: L.drop p).map (·.2)).Nodup := by
      refine (pm.map (·.2)).nodup_iff.mpr ?_
      rw [List.map_cons]
      exact List.nodup_cons.mpr ⟨hm, R.nd⟩
    have hes : (SetTable.insertAt es p (kh P w k, Value.ref x)).size = L.length + 1 := by
      have h := congrArg List.length hin
      unfold rowsK at h
      rw [Array.length_toList, List.length_map, hlen] at h
      exact h
    generalize SetTable.insertAt es p (kh P w k, Value.ref x) = es1 at hin hes ⊢
    generalize L.take p ++ (x, k) :: L.drop p = L1 at pm hlen q3 nd1 hin
    have h4 := hfew hm
    -- behind the mark of plainness
    have fin : ∀ pl : Bool, wpAny (model P w) A (do
        storeSet a es1 { t1 with plain := pl }
        if (!false && SetTable.tooFull { t1 with plain := pl }) = true then setRelay a (SetTable.grown (es.size + 1))
        return true) Q E s := fun pl => by
      have q3' : TabOk { t1 with plain := pl } (L1.map fun p => kh P w p.2) := ⟨q3.ris, q3.dm, q3.sz, q3.mok, q3.bd, q3.reach⟩
      have q9' : SetTable.fill { t1 with plain := pl } = SetTable.fill t1 := rfl
      have hm1 : t1.mask = 7 := by rw [q4]; exact R.m7
      have hff : ¬ SetTable.tooFull { t1 with plain := pl } = true := by
        have e : SetTable.tooFull { t1 with plain := pl } = SetTable.tooFull t1 := rfl
        rw [e]
        unfold SetTable.tooFull
        rw [decide_eq_true_eq, q9, List.length_map, hm1]
        omega
      refine wpAny_bind (wpAny_storeSet_of ho hd ?_ (by rw [hes, sizeLine_eq]; omega))
      have sb : Heap.SameBut a s.heap (s.heap.update a (Obj.putSet es1 { t1 with plain := pl })) := Heap.SameBut.update ..
      have ho1 := store_at (es' := es1) (t' := { t1 with plain := pl }) ho hd
      generalize s.heap.update a (Obj.putSet es1 { t1 with plain := pl }) = h1 at sb ho1 ⊢
      have tup1 : ∀ p ∈ L1, IsK P w h1 p.2 p.1 := fun p hp => by
        rcases List.mem_cons.mp (pm.mem_iff.mp hp) with e | hp
        · rw [e]; exact isK_same hx ho hd sb
        · exact isK_same (R.tup p hp) ho hd sb
      first
        | refine wp_if_neg (by simp [hff]) ?_
        | (refine wpAny_bind ?_; refine wp_if_neg (by simp [hff]) ?_; refine wpAny_pure ?_)
      exact wpAny_pure (hQ true h1 L1 es1 (ep + 1) { t1 with plain := pl } sb ⟨⟨_, ho1, ⟨hex.1, hex.2.1, hex.2.2⟩, rfl⟩, hin, q3', nd1, tup1, by rw [show ({ t1 with plain := pl } : SetTable).led = t1.led from rfl, q5]; exact R.led, hm1, by rw [hlen]; exact h4⟩ (fun z => absurd z hm) fun _ => pm)
    have fin' : ∀ q : Bool, wpAny (model P w) A (do
        storeSet a es1 (if q = true then t1 else { t1 with plain := false })
        if (!false && SetTable.tooFull (if q = true then t1 else { t1 with plain := false })) = true then setRelay a (SetTable.grown (es.size + 1))
        return true) Q E s := fun q => by
      cases q with
      | true => exact fin t1.plain
      | false => exact fin false
    by_cases hp1 : t1.plain = true
    · exact wp_if_pos hp1 (wpAny_bind (byVal_tup hx fun q => fin' q))
    · exact wp_if_neg hp1 (wpAny_bind (wpAny_pure (fin' true)))
/-! set(a list) -/
structure GotK (ks : KL) (i : Nat) (L : KL) : Prop where
  sub : ∀ p ∈ L, p ∈ ks.take i
  all : ∀ p ∈ ks.take i, p.2 ∈ L.map (·.2)
theorem GotK.zero (ks : KL) : GotK ks 0 [] := ⟨fun p h => (by cases h), fun p h => (by simp at h)⟩
theorem GotK.same {ks L : KL} {i : Nat} {x : Addr × List L2.Key} (g : GotK ks i L) (h : ks[i]? = some x) (hm : x.2 ∈ L.map (·.2)) : GotK ks (i + 1) L := by
  refine ⟨fun p hp => ?_, fun p hp => ?_⟩
  · rw [take_next h]
    exact List.mem_append_left _ (g.sub p hp)
  · rw [take_next h] at hp
    rcases List.mem_append.mp hp with z | z
    · exact g.all p z
    · rw [List.mem_singleton.mp z]; exact hm
theorem GotK.more {ks L L' : KL} {i : Nat} {x : Addr × List L2.Key} (g : GotK ks i L) (h : ks[i]? = some x) (pm : L'.Perm (x :: L)) : GotK ks (i + 1) L' := by
  refine ⟨fun p hp => ?_, fun p hp => ?_⟩
  · rw [take_next h]
    rcases List.mem_cons.mp (pm.mem_iff.mp hp) with e | z
    · rw [e]; exact List.mem_append_right _ (List.mem_singleton.mpr rfl)
    · exact List.mem_append_left _ (g.sub p z)
  · rw [(pm.map (·.2)).mem_iff, List.map_cons]
    rw [take_next h] at hp
    rcases List.mem_append.mp hp with z | z
    · exact List.mem_cons_of_mem _ (g.all p z)
    · rw [List.mem_singleton.mp z]; exact List.mem_cons_self
theorem isK_keep {h h' : Heap} {k : List L2.Key} {b : Addr} (x : IsK P w h k b) (hk : ∀ c o, h.get? c = some o → h'.get? c = some o) : IsK P w h' k b := by
  obtain ⟨o, items, n, ho, r⟩ := x
  exact ⟨o, items, n, hk b o ho, r⟩
theorem SK.keep {h h' : Heap} {a : Addr} {L : KL} {es : Array (Int × Value)} {ep : Nat} {t : SetTable} (R : SK P w h a L es ep t) (ha : ∀ o, h.get? a = some o → h'.get? a = some o) (ht : ∀ p ∈ L, IsK P w h' p.2 p.1) : SK P w h' a L es ep t := by
  obtain ⟨o, ho, r⟩ := R.ob
  exact ⟨⟨o, ha o ho, r⟩, R.rows, R.tab, R.nd, ht, R.led, R.m7, R.few⟩
theorem sk_fresh {h : Heap} {a : Addr} (ho : h.get? a = some { cls := .type "set", dict := none, data := .set #[] 0 (.fresh 0 0 (!w.params.followText "set-order")) }) : SK P w h a [] #[] 0 (.fresh 0 0 (!w.params.followText "set-order")) where
  ob := ⟨_, ho, ⟨rfl, rfl, rfl⟩, rfl⟩
  rows := rfl
  tab := ⟨List.Pairwise.nil, rfl, rfl, .inl rfl, fun x hx => (by cases hx), fun i h j hi => (by simp at hi)⟩
  nd := List.nodup_nil
  tup := fun p hp => (by cases hp)
  led := by
    show _ ∨ (!w.params.followText "set-order") = true
    cases w.params.followText "set-order"
    · exact .inr rfl
    · exact .inl rfl
  m7 := rfl
  few := Nat.zero_le _
theorem more4 {U : List (List L2.Key)} (hU : U.length ≤ 4) {L : KL} {k : List L2.Key} (nd : (L.map (·.2)).Nodup) (hL : ∀ p ∈ L, p.2 ∈ U) (hk : k ∈ U) (hn : k ∉ L.map (·.2)) : L.length + 1 ≤ 4 := by
  have := Q.nodup_le (xs := k :: L.map (·.2)) (ys := U) (List.nodup_cons.mpr ⟨hn, nd⟩) fun x hx => by
    rcases List.mem_cons.mp hx with z | z
    · rw [z]; exact hk
    · obtain ⟨p, hp, rfl⟩ := List.mem_map.mp z
      exact hL p hp
  rw [List.length_cons, List.length_map] at this
  omega
theorem update_k {I : Addr} {fp wr : List Addr} {G : Array GenState → Array GenState → Prop} {n : Nat} {Pv : Nat → Value → Prop} {St : Nat → Shared → Prop} {R : Result → Shared → Prop}
    (W : WalksS P w A.in1 I fp wr G n Pv St) (S : Addr) (hSf : S ∉ fp) (ks : KL) (U : List (List L2.Key)) (hU : U.length ≤ 4) (hkU : ∀ p ∈ ks, p.2 ∈ U) (hn : n = ks.length) (hval : ∀ i v, Pv i v → ∃ p, ks[i]? = some p ∧ v = .ref p.1)
    (h0 : Heap) (hk : ∀ p ∈ ks, IsK P w h0 p.2 p.1) (hS0 : h0.get? S = none) (hw0 : ∀ b ∈ wr, h0.get? b = none) (hu : A.in1.units < cLine) :
    ∀ (k i : Nat) (s : Shared), n - i = k → i ≤ n → St i s → (∀ b o, h0.get? b = some o → s.heap.get? b = some o) → (∃ L es ep t, SK P w s.heap S L es ep t ∧ GotK ks i L) →
      (∀ s' L es ep t, Moved (S :: wr) G s s' → SK P w s'.heap S L es ep t → GotK ks n L → (∀ b o, h0.get? b = some o → s'.heap.get? b = some o) → R (.ok (.ret .none)) s') →
      codeAny (model P w) A (.builtin "set.update.loop" ⟨[.ref S, .ref I], []⟩) R s := by
  have hSw : S ∉ wr := fun h => hSf (W.sub _ h)
  have hsub : ∀ b ∈ wr, b ∈ S :: wr := fun b hb => List.mem_cons_of_mem _ hb
  have keepM : ∀ {s s' : Shared}, Moved wr G s s' → (∀ b o, h0.get? b = some o → s.heap.get? b = some o) → ∀ b o, h0.get? b = some o → s'.heap.get? b = some o := fun hm hkp b o e =>
    hm.heap b o (fun hb => by rw [hw0 b hb] at e; cases e) (hkp b o e)
  intro k
  induction k with
  | zero =>
    intro i s hk' hi hst hkp ⟨L, es, ep, t, hS, g⟩ hR
    have hin : i = n := by omega
    subst hin
    refine codeAny_builtin F.entry_set_update_loop ?_
    rw [Around.under_plainId F.plain_set_update_loop _]
    show wpAny _ A.in1 (pyNext (.ref I) >>= _) _ _ s
    refine wpAny_bind (W.done s _ _ hst fun s' hm => ?_)
    show wpAny _ A.in1 (ret Value.none) _ _ s'
    have hkp' := keepM hm hkp
    have sub : ∀ p ∈ L, p ∈ ks := fun p hp => List.mem_of_mem_take (g.sub p hp)
    exact wpAny_pure (hR s' L es ep t (hm.mono hsub) (hS.keep (fun o e => hm.heap S o hSw e) fun p hp => isK_keep (hk p (sub p hp)) hkp') g hkp')
  | succ k ih =>
    intro i s hk' hi hst hkp ⟨L, es, ep, t, hS, g⟩ hR
    have hlt : i < n := by omega
    refine codeAny_builtin F.entry_set_update_loop ?_
    rw [Around.under_plainId F.plain_set_update_loop _]
    show wpAny _ A.in1 (pyNext (.ref I) >>= _) _ _ s
    refine wpAny_bind (W.item i s _ _ hlt hst fun v s' hP hst' hm => ?_)
    obtain ⟨p, hp, rfl⟩ := hval i v hP
    have hkp' := keepM hm hkp
    have sub : ∀ p ∈ L, p ∈ ks := fun p hp => List.mem_of_mem_take (g.sub p hp)
    have hS' : SK P w s'.heap S L es ep t := hS.keep (fun o e => hm.heap S o hSw e) fun q hq => isK_keep (hk q (sub q hq)) hkp'
    have hx : IsK P w s'.heap p.2 p.1 := isK_keep (hk p (List.mem_of_getElem? hp)) hkp'
    show wpAny _ A.in1 (holding [Value.ref p.1] (setAdd S (.ref p.1)) >>= _) _ _ s'
    refine wpAny_bind (wpAny_holding ?_)
    unfold setAdd
    refine wpAny_holding ?_
    refine wpAny_bind (wpAny_pyHash_tuple hu hx ?_)
    refine add_k (s := { s' with toks := s'.toks + (p.2.length + 1) }) hS' hx hu (more4 hU hS'.nd (fun q hq => hkU q (sub q hq)) (hkU p (List.mem_of_getElem? hp))) fun b h' L' es' ep' t' hsb hS2 c1 c2 => ?_
    have g' : GotK ks (i + 1) L' := by
      rcases Classical.em (p.2 ∈ L.map (·.2)) with c | c
      · rw [c1 c]; exact g.same hp c
      · exact g.more hp (c2 c)
    have hkp2 : ∀ b o, h0.get? b = some o → h'.get? b = some o := fun b o e => (hsb.2 b (fun z => by rw [z, hS0] at e; cases e)).trans (hkp' b o e)
    refine wpAny_pure ⟨plainId_quiet F.plain_set_update_loop _, ih (i + 1) _ (by omega) hlt (W.frame _ s' _ _ hst' (Nat.le_add_right _ _) fun b hb o e => ?_) hkp2 ⟨L', es', ep', t', hS2, g'⟩ fun s'' L2 es2 ep2 t2 hm'' hS'' g'' hkp'' => ?_⟩
    · rw [hsb.2 b (fun h : b = S => hSf (by rw [← h]; exact hb))]; exact e
    · refine hR s'' L2 es2 ep2 t2 (Moved.trans W.gtrans ((hm.mono hsub).then_heap (Nat.le_add_right _ _) fun b o hb e => ?_) hm'') hS'' g'' hkp''
      rw [hsb.2 b (fun h : b = S => hb (by rw [h]; exact List.mem_cons_self))]; exact e
end
end HSet

set_option Elab.async false
set_option linter.all false
set_option maxRecDepth 100000
set_option maxHeartbeats 4000000
/-! plain: the order of heads -/
namespace Q
open PySem DL PySem.W
theorem str_ext {x y : Str} (h : x.cps.toList = y.cps.toList) : x = y := by
  obtain ⟨a⟩ := x
  obtain ⟨b⟩ := y
  have : a = b := Array.ext' h
  rw [this]
theorem lt_tri (a b : List Nat) : a < b ∨ a = b ∨ b < a := by
  by_cases h : a < b
  · exact .inl h
  · by_cases g : b < a
    · exact .inr (.inr g)
    · have h1 : b ≤ a := List.not_lt.mp h
      have h2 : a ≤ b := List.not_lt.mp g
      exact .inr (.inl (List.le_antisymm h2 h1))
theorem hle_iff {a b : Hd} : hle a b = true ↔ a.1.cps.toList < b.1.cps.toList ∨ (a.1 = b.1 ∧ a.2 ≤ b.2) := by
  have e : hle a b = !dataLt (hdD b) (hdD a) := rfl
  rw [e]
  unfold hdD
  rw [dataLt_pair (by simp [alike]) (by simp [alike]), dataLt_int, dataLt_str]
  simp only [PyData.eqv, beq_iff_eq]
  by_cases h1 : b.1 = a.1
  · rw [if_pos h1]
    by_cases h2 : b.2 = a.2
    · rw [if_pos h2]
      simp [h1, h2]
    · rw [if_neg h2]
      have hir : ¬ a.1.cps.toList < b.1.cps.toList := by rw [h1]; exact List.lt_irrefl _
      simp only [hir, false_or, h1, true_and, Bool.not_eq_true', decide_eq_false_iff_not]
      have hir2 : ¬ a.1.cps.toList < a.1.cps.toList := List.lt_irrefl _
      simp only [hir2, false_or]
      omega
  · rw [if_neg h1]
    have h1' : ¬ a.1 = b.1 := fun z => h1 z.symm
    simp only [h1', false_and, or_false, Bool.not_eq_true', decide_eq_false_iff_not]
    rcases lt_tri a.1.cps.toList b.1.cps.toList with h | h | h
    · exact ⟨fun _ => h, fun _ g => List.lt_irrefl _ (List.lt_trans h g)⟩
    · exact absurd (str_ext h) h1'
    · exact ⟨fun g => absurd h g, fun g => absurd (List.lt_trans g h) (List.lt_irrefl _)⟩
theorem hle_total : TotalLe hle where
  trans := fun a b c h g => by
    rw [hle_iff] at h g ⊢
    rcases h with h | ⟨h, h'⟩
    · rcases g with g | ⟨g, g'⟩
      · exact .inl (List.lt_trans h g)
      · rw [← g]
        exact .inl h
    · rcases g with g | ⟨g, g'⟩
      · rw [h]
        exact .inl g
      · exact .inr ⟨h.trans g, by omega⟩
  total := fun a b => by
    rw [hle_iff, hle_iff]
    rcases lt_tri a.1.cps.toList b.1.cps.toList with h | h | h
    · exact .inl (.inl h)
    · have e := str_ext h
      rcases Int.le_total a.2 b.2 with g | g
      · exact .inl (.inr ⟨e, g⟩)
      · exact .inr (.inr ⟨e.symm, g⟩)
    · exact .inr (.inl h)
theorem hle_anti {a b : Hd} (h : hle a b = true) (g : hle b a = true) : a = b := by
  rw [hle_iff] at h g
  rcases h with h | ⟨h, h'⟩
  · rcases g with g | ⟨g, g'⟩
    · exact absurd (List.lt_trans h g) (List.lt_irrefl _)
    · rw [g] at h
      exact absurd h (List.lt_irrefl _)
  · rcases g with g | ⟨g, g'⟩
    · rw [h] at g
      exact absurd g (List.lt_irrefl _)
    · exact Prod.ext h (by omega)
/-- two lists without doubles, with the same members, are sorted alike -/
theorem sort_same {xs ys : List Hd} (nx : xs.Nodup) (ny : ys.Nodup) (h : ∀ x, x ∈ xs ↔ x ∈ ys) : xs.mergeSort hle = ys.mergeSort hle := by
  have p : (xs.mergeSort hle).Perm ys := (List.mergeSort_perm _ _).trans ((List.perm_ext_iff_of_nodup nx ny).mpr h)
  refine sort_unique hle_total (sort_pairwise hle_total xs) fun c => ?_
  have e : ∀ x, sameRank hle c x = decide (x = c) := fun x => by
    rw [Bool.eq_iff_iff, decide_eq_true_eq]
    unfold sameRank
    rw [Bool.and_eq_true]
    constructor
    · rintro ⟨h1, h2⟩
      exact hle_anti h2 h1
    · rintro rfl
      exact ⟨hle_total.refl _, hle_total.refl _⟩
  have key : ∀ {zs : List Hd}, zs.Nodup → zs.filter (sameRank hle c) = if c ∈ zs then [c] else [] := by
    intro zs nz
    induction zs with
    | nil => rfl
    | cons z zs ih =>
      rw [List.nodup_cons] at nz
      by_cases hz : z = c
      · subst hz
        rw [List.filter_cons_of_pos (by rw [e]; exact decide_eq_true rfl), ih nz.2, if_neg nz.1, if_pos List.mem_cons_self]
      · rw [List.filter_cons_of_neg (by rw [e]; simpa using hz), ih nz.2]
        have : c ∈ z :: zs ↔ c ∈ zs := by
          rw [List.mem_cons]
          exact ⟨fun h => h.resolve_left (fun z' => hz z'.symm), .inr⟩
        by_cases g : c ∈ zs
        · rw [if_pos g, if_pos (this.mpr g)]
        · rw [if_neg g, if_neg (fun z => g (this.mp z))]
  rw [key (p.nodup_iff.mpr ny), key ny]
  by_cases g : c ∈ ys
  · rw [if_pos g, if_pos (p.mem_iff.mpr g)]
  · rw [if_neg g, if_neg (fun z => g (p.mem_iff.mp z))]
end Q

set_option Elab.async false
set_option linter.all false
set_option maxRecDepth 100000
set_option maxHeartbeats 4000000
namespace HSet
open PySem PySem.Spec PyProof.Rows L2
section
variable {P : Program} {w : World} {A : Around} {E : Value → Shared → Prop} {s : Shared}
/-- set(a list of heads) -/
theorem call_set_k {l : Addr} {items : Array Value} (ks : KL) (U : List (List L2.Key)) (hU : U.length ≤ 4) (hkU : ∀ p ∈ ks, p.2 ∈ U) {Q : Value → Shared → Prop} (hh : A.handled = none) (hl : s.heap.IsList l items) (hit : items.toList = ks.map fun p => Value.ref p.1)
    (hk : ∀ p ∈ ks, IsK P w s.heap p.2 p.1) (hu : A.units + 3 < cLine)
    (h : ∀ (h' : Heap) (tk : Nat) L es ep t, SK P w h' s.heap.objs.size L es ep t → GotK ks ks.length L → (∀ b o, s.heap.get? b = some o → h'.get? b = some o) → Q (.ref s.heap.objs.size) { s with heap := h', toks := tk }) :
    wpAny (model P w) A (call (.type "set") [.ref l]) Q E s := by
  have hisz : items.size = ks.length := by
    have q := congrArg List.length hit
    rw [Array.length_toList, List.length_map] at q
    exact q
  obtain ⟨c, tl, hmro⟩ := F.called_set.mro
  have hmade := F.called_set.made
  have hsub := F.called_set.sub
  refine wpAny_call (codeAny_of_tree ?_)
  show wpAny _ _ (callAny (.type "set") _) _ _ _
  refine wpAny_pure ⟨Code.quiet_builtin _ (by decide +kernel), codeAny_builtin F.entry_type_call ?_⟩
  rw [Around.under_plain (weight_type_call_type "set" [.ref l] []) rfl]
  have h1 := F.called_set.notType
  have h2 := F.called_set.canCreate
  have hct := F.typeCall_set_1 (.ref l)
  repeat (any_goals (first | assumption | wp_step))
  refine codeAny_mono (code_set_led1 (.ref l) (E := E) (Q₁ := fun obj s₁ => obj = .ref s.heap.objs.size ∧ s₁ = { s with heap := s.heap.push { cls := .type "set", dict := none, data := .set #[] 0 (.fresh 0 0 (!w.params.followText "set-order")) } }) ⟨rfl, rfl⟩) fun r s₁ hr => ?_
  cases r with
  | error e => exact hr
  | ok fl =>
    cases fl with
    | ret obj =>
      obtain ⟨rfl, rfl⟩ := hr
      have hS : (s.heap.push { cls := .type "set", dict := none, data := .set #[] 0 (.fresh 0 0 (!w.params.followText "set-order")) }).get? s.heap.objs.size = some { cls := .type "set", dict := none, data := .set #[] 0 (.fresh 0 0 (!w.params.followText "set-order")) } := Heap.get?_push_size _ rfl
      have hT : Shared.TypeIs { s with heap := s.heap.push { cls := .type "set", dict := none, data := .set #[] 0 (.fresh 0 0 (!w.params.followText "set-order")) } } (.ref s.heap.objs.size) "set" := ⟨_, hS, rfl⟩
      have hli := F.called_set.init.lookup
      have hbi := F.called_set.init.bind (.ref s.heap.objs.size)
      repeat (any_goals (first | assumption | wp_step))
      refine codeAny_mono (codeAny_call_builtin (R := wants (fun r s₂ => r = .none ∧ ∃ h' tk L es ep t, s₂ = { s with heap := h', toks := tk } ∧ SK P w h' s.heap.objs.size L es ep t ∧ GotK ks ks.length L ∧
          (∀ b o, s.heap.get? b = some o → h'.get? b = some o)) E) F.called_set.init.plain F.entry_set_init (check_set_init_1 hT ?_)) fun r₂ s₂ hr₂ => ?_
      · obtain ⟨ol, hol, hcl, nl, hdl⟩ := hl
        obtain ⟨ocls, odict, odata, oslots⟩ := ol
        simp only at hcl hdl
        subst hcl; subst hdl
        have hol' : (s.heap.push { cls := .type "set", dict := none, data := .set #[] 0 (.fresh 0 0 (!w.params.followText "set-order")) }).get? l = some { cls := .type "list", dict := odict, data := .seq items nl, slots := oslots } := Heap.get?_push_of_some _ hol
        have hsls := F.sub_list_set
        have hslf := F.sub_list_frozenset
        have hne : (Value.type "list" == Value.type "dict") = false := by decide
        have hl1 : (s.heap.push { cls := .type "set", dict := none, data := .set #[] 0 (.fresh 0 0 (!w.params.followText "set-order")) }).IsList l items := ⟨_, hol', rfl, nl, rfl⟩
        unfold Builtin.«set.__init__» noKeywords Builtin.Frozenset.updateFrom
        generalize hPI : pyIter = PI
        wp_walk
        subst hPI
        refine wpAny_pyIter_list hl1 ?_
        refine wpAny_bind (wpAny_runValue ?_)
        have hlS : l < s.heap.objs.size := Heap.lt_size hol
        have hh3 : A.in1.in1.in1.handled = none := by simp [hh]
        have hneI : l ≠ (s.heap.push { cls := .type "set", dict := none, data := .set #[] 0 (.fresh 0 0 (!w.params.followText "set-order")) }).objs.size := by
          rw [Heap.size_push]; exact Nat.ne_of_lt (Nat.lt_succ_of_lt hlS)
        have hSf : s.heap.objs.size ∉ [(s.heap.push { cls := .type "set", dict := none, data := .set #[] 0 (.fresh 0 0 (!w.params.followText "set-order")) }).objs.size, l] := by
          rw [Heap.size_push]; simp only [List.mem_cons, List.mem_singleton, List.not_mem_nil, or_false, not_or]
          exact ⟨Nat.ne_of_lt (Nat.lt_succ_self _), Nat.ne_of_gt hlS⟩
        have hval : ∀ (i : Nat) (v : Value), items[i]? = some v → ∃ p, ks[i]? = some p ∧ v = .ref p.1 := fun i v hv => by
          have q : items.toList[i]? = some v := by rw [Array.getElem?_toList]; exact hv
          rw [hit, List.getElem?_map] at q
          cases hq : ks[i]? with
          | none => rw [hq] at q; cases q
          | some p =>
            rw [hq] at q
            exact ⟨p, rfl, (Option.some.inj q).symm⟩
        have none_of : ∀ b, s.heap.objs.size ≤ b → s.heap.get? b = none := fun b hb => by
          cases q : s.heap.get? b with
          | none => rfl
          | some o => exact absurd (Nat.lt_of_lt_of_le (Heap.lt_size q) hb) (Nat.lt_irrefl _)
        refine update_k ((Walks.list hh3 _ l hneI items).toS) s.heap.objs.size
          hSf ks U hU hkU hisz hval s.heap hk (none_of _ (Nat.le_refl _)) (fun b hb => none_of b (by
            rw [List.mem_singleton.mp hb, Heap.size_push]
            exact Nat.le_succ _)) hu (items.size - 0) 0 _ (by omega) (Nat.zero_le _)
          ⟨⟨_, Heap.get?_push_size _ rfl, rfl, rfl⟩, (hl1.push _)⟩ (fun b o e => Heap.get?_push_of_some _ (Heap.get?_push_of_some _ e)) ?hS0 ?hR
        case hS0 =>
          have hget : ((s.heap.push { cls := .type "set", dict := none, data := .set #[] 0 (.fresh 0 0 (!w.params.followText "set-order")) }).push { cls := .type "list_iterator", data := .fields #[.ref l, .int 0 0] }).get? s.heap.objs.size
              = some { cls := .type "set", dict := none, data := .set #[] 0 (.fresh 0 0 (!w.params.followText "set-order")) } := Heap.get?_push_of_some _ hS
          exact ⟨[], #[], 0, _, sk_fresh hget, GotK.zero ks⟩
        case hR =>
          intro s' L es ep t hm hS' g' hkp
          obtain ⟨h', g2, d', tk', os'⟩ := s'
          have eg : g2 = s.gens := hm.gens
          have ed : d' = s.drawn := hm.drawn
          have eo : os' = s.os := hm.os
          subst eg; subst ed; subst eo
          show wpAny _ _ _ _ _ _
          refine wpAny_pure ?_
          show wpAny _ _ (ret Value.none) _ _ _
          rw [hisz] at g'
          exact wpAny_pure ⟨rfl, h', tk', L, es, ep, t, rfl, hS', g', hkp⟩
      · cases r₂ with
        | error e => exact hr₂
        | ok fl₂ =>
          cases fl₂ with
          | ret r =>
            obtain ⟨rfl, h', tk, L, es, ep, t, rfl, hS', g', hk'⟩ := hr₂
            repeat (any_goals (first | assumption | wp_step))
            exact h _ _ _ _ _ _ hS' g' hk'
          | _ => exact hr₂.elim
    | _ => exact hr.elim
end
/-- the set at a; what its tuples hold is told apart -/
def SK0 (P : Program) (w : World) (a : Addr) (L : KL) (h : Heap) : Prop := ∃ (es : Array (Int × Value)) (ep : Nat) (t : SetTable), (∃ o, h.get? a = some o ∧ o.ExactSet ∧ o.data = .set es ep t) ∧ es.toList = rowsK P w L ∧ TabOk t (L.map fun p => kh P w p.2) ∧ (L.map (·.2)).Nodup ∧
  (w.params.followText "set-order" = true ∨ t.led = true) ∧ t.mask = 7 ∧ L.length ≤ 4
def SKO (P : Program) (w : World) (a : Addr) (L : KL) : HO := .ext fun h => SK0 P w a L h
theorem sk0_of {P : Program} {w : World} {h : Heap} {a : Addr} {L : KL} {es : Array (Int × Value)} {ep : Nat} {t : SetTable} (R : SK P w h a L es ep t) : SK0 P w a L h := ⟨es, ep, t, R.ob, R.rows, R.tab, R.nd, R.led, R.m7, R.few⟩
theorem sko_ok {P : Program} {w : World} {H : Hp} {h : Heap} {a : Addr} {L : KL} (R : SK0 P w a L h) : ObjOk P w H h a (SKO P w a L) := by
  have ⟨es, ep, t, ⟨o, ho, r⟩, q⟩ := R
  refine ⟨R, ⟨o, ho⟩, fun h1 h2 p k => ?_⟩
  have ⟨es', ep', t', ⟨o', ho', r'⟩, q'⟩ := (show SK0 P w a L h1 from p)
  exact ⟨es', ep', t', ⟨o', k o' ho', r'⟩, q'⟩
end HSet

set_option Elab.async false
set_option linter.all false
set_option maxRecDepth 100000
set_option maxHeartbeats 4000000
namespace DL
open PySem PySem.W PySem.Spec PyProof.Rows L2 Q HSet
section
variable {X : Cx}
theorem isK_of {pins : List (Addr × Obj)} {σ : L2.St} {H : Hp} {s : Shared} {b : Addr} {h : Hd} (I : Inv X pins σ H s) (e : H b = some (.tup ((DL.hk h).map kV))) : IsK X.prog X.w s.heap (DL.hk h) b := key_of I.hok e
/-- a set of heads -/
def SetT (P : Program) (w : World) (hs : List Hd) : Ty := ⟨fun H v => ∃ (a : Addr) (L : KL) (us : List Hd), v = .ref a ∧ H a = some (SKO P w a L) ∧ L.map (·.2) = us.map DL.hk ∧ (∀ p ∈ L, ∃ h, p.2 = DL.hk h ∧ H p.1 = some (.tup ((DL.hk h).map kV))) ∧ us.Nodup ∧ (∀ h, h ∈ us ↔ h ∈ hs),
  fun e ⟨a, L, us, h1, h2, h3, h4, h5, h6⟩ => ⟨a, L, us, h1, e _ _ h2, h3, fun p hp => let ⟨h, e1, e2⟩ := h4 p hp; ⟨h, e1, e _ _ e2⟩, h5, h6⟩⟩
def rSetH (P : Program) (w : World) : List V → Hp → VK → Prop := fun xs H Q => ∃ (l : Addr) (ys : List V) (hs : List Hd) (U : List Hd), xs = [.ref l] ∧ H l = some (.lst ys) ∧ DqAll H ys (hs.map hdD) ∧ U.length ≤ 4 ∧ (∀ h ∈ hs, h ∈ U) ∧
  ∀ (a : Addr) (L : KL) (us : List Hd), H a = none → L.map (·.2) = us.map DL.hk → (∀ p ∈ L, ∃ h, p.2 = DL.hk h ∧ H p.1 = some (.tup ((DL.hk h).map kV))) → us.Nodup → (∀ h, h ∈ us ↔ h ∈ hs) → Q (.ref a) (upd H a (SKO P w a L))
theorem heads_ks {H : Hp} : ∀ {hs : List Hd} {ys : List V}, DqAll H ys (hs.map hdD) → ∃ ks : KL, ys = ks.map (fun p => V.ref p.1) ∧ ks.map (·.2) = hs.map DL.hk ∧ ∀ p ∈ ks, ∃ h, p.2 = DL.hk h ∧ H p.1 = some (.tup ((DL.hk h).map kV))
  | [], _, h => by cases h; exact ⟨[], rfl, rfl, fun p hp => nomatch hp⟩
  | h :: hs, _, g => by
    cases g with
    | cons g1 g2 =>
      obtain ⟨a, rfl, ha⟩ := dq_hd g1
      obtain ⟨ks, rfl, e2, e3⟩ := heads_ks g2
      refine ⟨(a, DL.hk h) :: ks, rfl, by rw [List.map_cons, List.map_cons, e2], fun p hp => ?_⟩
      rcases List.mem_cons.mp hp with z | z
      · rw [z]
        exact ⟨h, rfl, ha⟩
      · exact e3 p z
theorem refs_eq : ∀ {ks : KL} {us : List Value}, Vals (ks.map fun p => V.ref p.1) us → us = ks.map fun p => Value.ref p.1
  | [], _, .nil => rfl
  | p :: ks, _, .cons r t => by
    cases r
    rw [refs_eq t] <;> rfl
theorem cr_setH (hc : X.calm = true) (hu : X.A.units + 64 < cLine) : CallR X (.type "set") (rSetH X.prog X.w) := by
  intro pins s σ H xs us Q I r h
  obtain ⟨l, ys, hs, U, rfl, hl, hd, hU, hUm, q⟩ := h
  rw [Vals.ref1 r]
  obtain ⟨its, rv, pl, hz⟩ := I.list (SqL.of hl)
  obtain ⟨ks, rfl, e2, e3⟩ := heads_ks hd
  have hn : H s.heap.objs.size = none := I.hok.fresh (Nat.le_refl _)
  have hit : its = ks.map fun p => Value.ref p.1 := refs_eq rv
  have hkm : ∀ p ∈ ks, ∃ h ∈ hs, p.2 = DL.hk h := fun p hp => by
    have : p.2 ∈ hs.map DL.hk := by rw [← e2]; exact List.mem_map.mpr ⟨p, hp, rfl⟩
    obtain ⟨h, hh, e⟩ := List.mem_map.mp this
    exact ⟨h, hh, e.symm⟩
  refine call_set_k (P := X.prog) (w := X.w) ks (U.map DL.hk) (by rw [List.length_map]; exact hU) (fun p hp => ?_) (I.ok.hd hc) pl.isList (by simpa using hit) (fun p hp => ?_) (by omega) fun h' tk L es ep t R g k => ?_
  · obtain ⟨h, hh, e⟩ := hkm p hp
    rw [e]
    exact List.mem_map.mpr ⟨h, hUm h hh, rfl⟩
  · obtain ⟨h, e, e'⟩ := e3 p hp
    rw [e]
    exact isK_of I e'
  · have sub : ∀ p ∈ L, p ∈ ks := fun p hp => List.mem_of_mem_take (g.sub p hp)
    have hL : ∀ L : KL, (∀ p ∈ L, p ∈ ks) → ∃ us : List Hd, L.map (·.2) = us.map DL.hk := by
      intro L
      induction L with
      | nil => intro _; exact ⟨[], rfl⟩
      | cons p L ih =>
        intro hh
        obtain ⟨us, e⟩ := ih fun q hq => hh q (List.mem_cons_of_mem _ hq)
        obtain ⟨h, _, e'⟩ := hkm p (hh p List.mem_cons_self)
        exact ⟨h :: us, by rw [List.map_cons, List.map_cons, e, e']⟩
    obtain ⟨us, eu⟩ := hL L sub
    have hnd : us.Nodup := by
      have := R.nd
      rw [eu] at this
      exact List.Pairwise.of_map DL.hk (fun _ _ hne e => hne (congrArg DL.hk e)) this
    refine ⟨.ref s.heap.objs.size, upd H s.heap.objs.size (SKO X.prog X.w s.heap.objs.size L), I.laid (t' := tk) k (Nat.le_refl _) (sko_ok (sk0_of R)), rfl, q _ L us hn eu (fun p hp => e3 p (sub p hp)) hnd fun h => ?_⟩
    constructor
    · intro hh
      have : DL.hk h ∈ L.map (·.2) := by rw [eu]; exact List.mem_map.mpr ⟨h, hh, rfl⟩
      obtain ⟨p, hp, e⟩ := List.mem_map.mp this
      obtain ⟨h', hh', e'⟩ := hkm p (sub p hp)
      rw [e] at e'
      rw [hk_inj e']
      exact hh'
    · intro hh
      have h1 : DL.hk h ∈ ks.map (·.2) := by rw [e2]; exact List.mem_map.mpr ⟨h, hh, rfl⟩
      obtain ⟨p, hp, e⟩ := List.mem_map.mp h1
      have h2 := g.all p (by rw [List.take_length]; exact hp)
      rw [e, eu] at h2
      obtain ⟨h', hh', e'⟩ := List.mem_map.mp h2
      rw [← hk_inj e']
      exact hh'
/-- sorted(a set of heads) -/
def rSortS (P : Program) (w : World) : List V → Hp → VK → Prop := fun vs H Q => ∃ (a : Addr) (L : KL) (us : List Hd), vs = [.ref a] ∧ H a = some (SKO P w a L) ∧ L.map (·.2) = us.map DL.hk ∧ (∀ p ∈ L, ∃ h, p.2 = DL.hk h ∧ H p.1 = some (.tup ((DL.hk h).map kV))) ∧
  ∀ (zs : List Hd) ys p, zs.Perm us → H p = none → DqAll H ys ((zs.map hdD).mergeSort dle) → Q (.ref p) (upd H p (.lst ys))
theorem perm_pull {α β : Type} (f : α → β) : ∀ {ys : List β} {xs : List α}, ys.Perm (xs.map f) → ∃ zs : List α, zs.Perm xs ∧ ys = zs.map f
  | [], xs, h => by
    have : xs.map f = [] := List.Perm.eq_nil h.symm
    have e : xs = [] := by
      cases xs with
      | nil => rfl
      | cons => cases this
    exact ⟨[], by rw [e], rfl⟩
  | y :: ys, xs, h => by
    have hm : y ∈ xs.map f := h.mem_iff.mp List.mem_cons_self
    obtain ⟨x, hx, rfl⟩ := List.mem_map.mp hm
    obtain ⟨l1, l2, rfl⟩ := List.append_of_mem hx
    have h2 : ys.Perm ((l1 ++ l2).map f) := by
      have h3 : (f x :: ys).Perm (f x :: (l1 ++ l2).map f) := by
        refine h.trans ?_
        rw [List.map_append, List.map_cons, List.map_append]
        exact List.perm_middle
      exact List.Perm.cons_inv h3
    obtain ⟨zs, hz, rfl⟩ := perm_pull f h2
    exact ⟨x :: zs, (List.Perm.cons x hz).trans List.perm_middle.symm, rfl⟩
theorem cr_sortS (hc : X.calm = true) (hu : X.A.units + 64 < cLine) : CallR X (.builtin "sorted") (rSortS X.prog X.w) := by
  intro pins s σ H vs us Q I r h
  obtain ⟨a, L, hs, rfl, ha, eL, hL, q⟩ := h
  obtain ⟨es, ep, t, ⟨o, ho, hex, hd⟩, rows, tab, nd, led, m7, few⟩ := (show SK0 X.prog X.w a L s.heap from (I.hok a _ ha).1)
  have R : SK X.prog X.w s.heap a L es ep t := ⟨⟨o, ho, hex, hd⟩, rows, tab, nd, fun p hp => by
    obtain ⟨h, e, e'⟩ := hL p hp
    rw [e]
    exact isK_of I e', led, m7, few⟩
  rw [Vals.ref1 r]
  have hsz := R.size
  refine Calls.call_function_entry kind_sorted plain_sorted entry_sorted (args_sorted1 _) ?_
  unfold Builtin.«sorted»
  refine wpAny_bind (m := checkCount "sorted" 1 1 _) (wpAny_pure ?_)
  refine wpAny_bind (collect_set (A := X.A.in1) (I.ok.hd hc) ⟨o, ho, hex.1, hd⟩ R.fits (by unfold scanBound; omega) R.tab.ris R.led fun s1 out k1 hz g1 o1 pm => ?_)
  have hes : es.toList.map (·.2) = L.map fun q => Value.ref q.1 := by
    rw [R.rows]
    unfold rowsK
    rw [List.map_map] <;> rfl
  rw [hes] at pm
  obtain ⟨L2, pL, rfl⟩ := perm_pull (fun q : Addr × List L2.Key => Value.ref q.1) pm
  have hol : (L2.map fun q => Value.ref q.1).length ≤ 4 := by
    rw [List.length_map, pL.length_eq]
    exact R.few
  -- behind the collecting
  have J : Inv X pins σ H { s with heap := s1.heap, gens := s1.gens, drawn := s1.drawn, toks := s1.toks } :=
    I.call (ch := []) (Un.kept k1) (I.hok.kept k1) (by rw [g1]; exact I.bare) (fun _ z => nomatch z)
  have e1 : s1 = { s with heap := s1.heap, gens := s1.gens, drawn := s1.drawn, toks := s1.toks } := by
    cases s1
    cases s
    cases o1
    rfl
  rw [← e1] at J
  obtain ⟨us2, eu⟩ : ∃ zs : List Hd, zs.Perm hs ∧ L2.map (·.2) = zs.map DL.hk := by
    have p2 : (L2.map (·.2)).Perm (hs.map DL.hk) := by rw [← eL]; exact pL.map _
    obtain ⟨zs, hz, e⟩ := perm_pull DL.hk p2
    exact ⟨zs, hz, e⟩
  obtain ⟨pz, ez⟩ := eu
  have hdq : DqAll H (L2.map fun q => V.ref q.1) (us2.map hdD) := by
    have hL2 : ∀ p ∈ L2, ∃ h, p.2 = DL.hk h ∧ H p.1 = some (.tup ((DL.hk h).map kV)) := fun p hp => hL p (pL.mem_iff.mp hp)
    clear pm pL hol pz eL
    induction L2 generalizing us2 with
    | nil =>
      cases us2 with
      | nil => exact .nil
      | cons => cases ez
    | cons p L2 ih =>
      cases us2 with
      | nil => cases ez
      | cons u us2 =>
        rw [List.map_cons, List.map_cons] at ez
        injection ez with e1 e2
        obtain ⟨h, e3, e4⟩ := hL2 p List.mem_cons_self
        have : h = u := hk_inj (e3.symm.trans e1)
        rw [this] at e4
        exact .cons (hd_dq e4) (ih us2 e2 fun q hq => hL2 q (List.mem_cons_of_mem _ hq))
  have hlu : us2.length ≤ 10000 := by
    have := hdq.length
    rw [List.length_map, List.length_map] at this
    rw [List.length_map] at hol
    omega
  have rv : Vals (L2.map fun q => V.ref q.1) (L2.map fun q => Value.ref q.1) := by
    clear hdq ez pL pm hol
    induction L2 with
    | nil => exact .nil
    | cons p L2 ih => exact .cons rfl ih
  refine wpAny_bind (wpAny_newList ?_ (by rw [sizeLine_eq]; omega))
  refine wpAny_bind (wpAny_holding ?_)
  refine sort_collected (A := X.A.in1) (by show X.A.units + 1 + 40 < cLine; omega) (s0 := s1) (h' := s1.heap) (tk := s1.toks) J hdq rv (sortOk_hd hlu) (fun b hb u as r1 r2 => ?_) fun ys s2 hys J2 => ?_
  · have hb2 := List.of_mem_zip hb
    obtain ⟨g, _, eg⟩ := List.mem_map.mp hb2.2
    rw [← eg] at r2
    rw [reads_no _ _ _ (noList_hd g) r2]
    exact List.not_mem_nil
  · exact wpAny_pure ⟨_, rfl, .ref s1.heap.objs.size, _, J2, rfl, q us2 ys _ pz (J.hok.fresh (Nat.le_refl _)) hys⟩
/-- sorted(set(a list of heads)) -/
theorem o_sortedSet {ρ : List Sl} {de : Expr} {hs U : List Hd} {p p2 pos q0 : Pos} {k : Nat} (hr : Room k X.A) (hc : X.calm = true) (hm : X.mg "sorted" = none) (hm2 : X.mg "set" = none) (hde : EE X ρ de (D (.list (hs.map hdD)))) (hU : U.length ≤ 4) (hUm : ∀ h ∈ hs, h ∈ U)
    (hg : Gl X "sorted" := by rfl) (hg2 : Gl X "set" := by rfl) (he : starEach [de] X.env = (false, eval de X.env) :: starEach [] X.env := by rfl)
    (he2 : starEach [.Call (.Name "set" p2) [de] [] q0] X.env = (false, eval (.Call (.Name "set" p2) [de] [] q0) X.env) :: starEach [] X.env := by rfl) :
    EO X ρ (.Call (.Name "sorted" p) [.Call (.Name "set" p2) [de] [] q0] [] pos) (OwnL (((uniqH hs).mergeSort hle).map hdD)) := by
  have h1 : EE X ρ (.Call (.Name "set" p2) [de] [] q0) (SetT X.prog X.w hs) := ee_callTy (cr_setH hc (by have := hr.un; omega)) hm2 boot_set (ea_cons hde ea_nil he) (fun Hs H vs Q s h q => by
    obtain ⟨v, rfl, hv⟩ := tys1 h
    obtain ⟨a, xs, rfl, ha, hp⟩ := dq_list hv
    refine ⟨a, xs, hs, U, rfl, s _ _ ha, dqs_mono s _ _ hp, hU, hUm, fun a' L us hn e1 e2 e3 e4 => ?_⟩
    have sp := proT_h s
    have X1 := (Ext.promo s).trans (Ext.new (o := SKO X.prog X.w a' L) sp hn)
    refine q _ _ _ X1 ⟨a', L, us, rfl, upd_same, e1, fun p hp => ?_, e3, e4⟩
    obtain ⟨h, e5, e6⟩ := e2 p hp
    refine ⟨h, e5, ?_⟩
    have n1 : p.1 ≠ a' := ne_of_none e6 hn
    rw [upd_ne n1]
    exact proT_tup s e6) hg2 (he := he)
  refine eo_callB (cr_sortS hc (by have := hr.un; omega)) hm rfl (ea_cons h1 ea_nil he2) (fun Hs H vs Q s h q => ?_) hg (he := he2)
  obtain ⟨v, rfl, a, L, us, rfl, ha, eL, hL, hnd, hmem⟩ := tys1 h
  refine ⟨a, L, us, rfl, s _ _ ha, eL, fun p hp => ?_, fun zs ys p pz hn hys => ?_⟩
  · obtain ⟨h, e1, e2⟩ := hL p hp
    exact ⟨h, e1, s _ _ e2⟩
  · have e : (zs.map hdD).mergeSort dle = ((uniqH hs).mergeSort hle).map hdD := by
      rw [sort_heads]
      rw [sort_same (pz.nodup_iff.mpr hnd) (nodup_uniqH hs) fun x => (pz.mem_iff.trans (hmem x)).trans mem_uniqH.symm]
    exact sort_out s hn (noLists_hd _) hys (by rw [e]; exact q)
end
end DL

set_option Elab.async false
set_option linter.all false
set_option maxRecDepth 100000
set_option maxHeartbeats 4000000
namespace Q
open PySem DL
/-- ways whose stops between lie in S -/
inductive RchS (ws : List HdP) (S : List Hd) (a : Hd) : Hd → Prop
  | one {b : Hd} : (a, b) ∈ ws → RchS ws S a b
  | more {b c : Hd} : RchS ws S a b → b ∈ S → (b, c) ∈ ws → RchS ws S a c
theorem RchS.split {ws : List HdP} {S : List Hd} {m a b : Hd} (h : RchS ws (S ++ [m]) a b) : RchS ws S a b ∨ (RchS ws S a m ∧ RchS ws S m b) := by
  induction h with
  | one e => exact .inl (.one e)
  | @more b c r hb e ih =>
    by_cases hm : b = m
    · subst hm
      rcases ih with ih | ih
      · exact .inr ⟨ih, .one e⟩
      · exact .inr ⟨ih.1, .one e⟩
    · have hb' : b ∈ S := by
        rcases List.mem_append.mp hb with z | z
        · exact z
        · exact absurd (List.mem_singleton.mp z) hm
      rcases ih with ih | ih
      · exact .inl (.more ih hb' e)
      · exact .inr ⟨ih.1, .more ih.2 hb' e⟩
theorem Rch.trans {ws : List HdP} {a b c : Hd} (h : Rch ws a b) (g : Rch ws b c) : Rch ws a c := by
  induction g with
  | one e => exact .more h e
  | more g e ih => exact .more ih e
/-- what the law's dict of ways holds -/
structure LedIn (md : List Hd) (ks : List HdP) : Prop where
  nd : ks.Nodup
  sb : ∀ x ∈ ks, x.1 ∈ md ∧ x.2 ∈ md
theorem LedIn.len {md : List Hd} {ks : List HdP} (h : LedIn md ks) (hl : md.length ≤ 40) : ks.length ≤ 1600 := by
  have h1 := nodup_le (ys := md.flatMap fun a => md.map fun b => (a, b)) h.nd fun x hx => by
    obtain ⟨a, b⟩ := h.sb x hx
    exact List.mem_flatMap.mpr ⟨x.1, a, List.mem_map.mpr ⟨x.2, b, rfl⟩⟩
  have h2 : ∀ xs : List Hd, (xs.flatMap fun a => md.map fun b => (a, b)).length = xs.length * md.length := by
    intro xs
    induction xs with
    | nil => simp
    | cons x xs ih =>
      rw [List.flatMap_cons, List.length_append, List.length_map, ih, List.length_cons, Nat.add_mul]
      omega
  rw [h2] at h1
  have := Nat.mul_le_mul hl hl
  omega
theorem mem_addN {ks : List HdP} {k x : HdP} : x ∈ addN ks k ↔ x ∈ ks ∨ x = k := by
  unfold addN
  split
  · constructor
    · exact .inl
    · rintro (g | rfl) <;> assumption
  · rw [List.mem_append, List.mem_singleton]
theorem LedIn.add {md : List Hd} {ks : List HdP} (h : LedIn md ks) {k : HdP} (h1 : k.1 ∈ md) (h2 : k.2 ∈ md) : LedIn md (addN ks k) := by
  refine ⟨?_, fun x hx => ?_⟩
  · unfold addN
    split
    · exact h.nd
    · rename_i g
      exact List.nodup_append.mpr ⟨h.nd, List.nodup_cons.mpr ⟨List.not_mem_nil, List.nodup_nil⟩, fun a ha b hb e => g (by rw [← List.mem_singleton.mp hb, ← e]; exact ha)⟩
  · rcases mem_addN.mp hx with z | rfl
    · exact h.sb x z
    · exact ⟨h1, h2⟩
def mdOf (rs : Rl) : List Hd := rs.map fun p => hdOf p.1
theorem mem_md {rs : Rl} {x : Hd} : x ∈ mdOf rs ↔ x ∈ madeH rs := by
  rw [mem_madeH]
  unfold mdOf
  rw [List.mem_map]
def wayIn (rs : Rl) (p : PyData × PyData) (x : HdP) : Prop := x.1 = hdOf p.1 ∧ x.2 ∈ headsOf p.2 ∧ x.2 ∈ mdOf rs
theorem mem_ways {rs : Rl} {x : HdP} : x ∈ waysOf (sides rs) ↔ ∃ p ∈ rs, wayIn rs p x := by
  unfold waysOf wayIn
  rw [List.mem_map]
  constructor
  · rintro ⟨c, hc, rfl⟩
    obtain ⟨p, hp, e, h1, h2⟩ := mem_sides.mp hc
    unfold inMade at h2
    rw [Bool.and_eq_true, decide_eq_true_eq] at h2
    refine ⟨p, hp, by rw [e], ?_, mem_md.mpr h2.2⟩
    unfold headsOf hdsL
    exact List.mem_map.mpr ⟨c.2, List.mem_filter.mpr ⟨h1, h2.1⟩, rfl⟩
  · rintro ⟨p, hp, e, h1, h2⟩
    unfold headsOf hdsL at h1
    obtain ⟨q, hq, e2⟩ := List.mem_map.mp h1
    obtain ⟨h3, h4⟩ := List.mem_filter.mp hq
    refine ⟨(p.1, q), mem_sides.mpr ⟨p, hp, rfl, h3, ?_⟩, ?_⟩
    · unfold inMade
      rw [Bool.and_eq_true, decide_eq_true_eq]
      exact ⟨h4, mem_md.mp (by rw [e2]; exact h2)⟩
    · show (hdOf p.1, hdOf q) = x
      rw [← e, e2]
theorem ways_md {rs : Rl} {x : HdP} (h : x ∈ waysOf (sides rs)) : x.1 ∈ mdOf rs ∧ x.2 ∈ mdOf rs := by
  obtain ⟨p, hp, e, _, h2⟩ := mem_ways.mp h
  exact ⟨by rw [e]; exact List.mem_map.mpr ⟨p, hp, rfl⟩, h2⟩
theorem rch_in {rs : Rl} {a b : Hd} (h : Rch (waysOf (sides rs)) a b) : RchS (waysOf (sides rs)) (mdOf rs) a b := by
  induction h with
  | one e => exact .one e
  | more r e ih => exact .more ih (ways_md e).1 e
end Q
namespace K53
open PySem PySem.Spec PyProof.Rows L2 DL Q
section
variable {P : Program} {w : World} {K : PySem.W.Frag} {mg : Str → Option Value} {base : Heap} {f : Addr} {fd : FuncData} {aR aC aT : Addr}
theorem shaped_heads {hs : List Hd} (h : ∀ x ∈ hs, NameOk x.1) : SeqAt.shaped (.list (hs.map hdD)) = true := by
  have h1 : PyData.canLayAll0 (hs.map hdD) = true := canLayAll_mem.mpr fun a ha => by
    obtain ⟨x, hx, rfl⟩ := List.mem_map.mp ha
    exact SeqAt.canLay_of_shaped (shaped_hd (h x hx))
  have h2 : PyData.depthAll (hs.map hdD) ≤ 1 := depthAll_le fun a ha => by
    obtain ⟨x, hx, rfl⟩ := List.mem_map.mp ha
    simp [hdD, PyData.depth, PyData.depthAll]
  unfold SeqAt.shaped
  rw [Bool.and_eq_true]
  refine ⟨by simpa [PyData.canLay0] using h1, decide_eq_true ?_⟩
  rw [PyData.depth]
  omega
theorem any_hd {hs : List Hd} {x : Hd} : ((hs.map hdD).any fun z => PyData.eqv z (hdD x)) = decide (x ∈ hs) := by
  rw [Bool.eq_iff_iff, any_eqv (fun y hy => by obtain ⟨z, _, rfl⟩ := List.mem_map.mp hy; exact nb_hd z) (nb_hd x), decide_eq_true_eq, List.mem_map]
  constructor
  · rintro ⟨y, hy, e⟩
    rw [← hdD_inj e]
    exact hy
  · intro h
    exact ⟨x, h, rfl⟩
def S_ringed : List Ty → Ty → Prop := fun Ts T => ∃ (rs : Rl) (U : List Hd), RlOk rs ∧ U.length ≤ 4 ∧ (∀ p ∈ rs, hdOf p.1 ∈ U) ∧ Ts = [D (.list (rs.map ruleD))] ∧ T = D (.list ((ringH rs).map hdD))
abbrev NR : List Str := ["_law_some", "_law_left", "_law_right_here", "_law_made", "_law_led", "_law_one", "_law_middle", "_law_begin", "_law_goal"]
theorem sc_ringed : FnScope NR ["_law_some"] (defScope sLawRinged) := ⟨rfl, rfl, rfl, by decide +kernel, rfl, by decide +kernel, by decide +kernel⟩
theorem ok_ringed (B : Bi mg) (G1 : Fn P w K mg base 1 "_law_head" S_lhead) (G2 : Fn P w K mg base 9 "_law_heads" (S_heads 8)) (F : FnP K "_law_ringed" "_law_ringed" sLawRinged f fd) : FnOk P w K mg base CX0 10 f fd ["_law_some"] (spS S_ringed) := by
  refine fn_ok F sc_ringed (by rintro _ _ ⟨_, _, _, _, _, rfl, rfl⟩; rfl) ?_
  rintro cdv A outer s H E hr _ _ ⟨rs, U, ok, hU, hUm, rfl, rfl⟩
  have h1 : Room 1 _ := hr.mono (by decide)
  have hn := sc_ringed.nd
  have hln := ok.ln
  have hmdl : (mdOf rs).length ≤ 40 := by
    unfold mdOf
    rw [List.length_map]
    exact hln
  have hmdn : ∀ x ∈ mdOf rs, NameOk x.1 := fun x hx => name_madeH ok (mem_md.mp hx)
  have happ : ∀ p ∈ rs, ∃ x as, p.1 = .tuple (.str x :: as) ∧ hdOf p.1 = (x, ((as.length : Nat) : Int)) := fun p hp => by
    obtain ⟨x, as, e, _⟩ := (ok.ok p hp).tl.app_ (ok.ok p hp).al
    exact ⟨x, as, e, by rw [e]; rfl⟩
  refine bb_setLcD 3 [("_law_left", 1), ("_law_right_here", 2)] ((mdOf rs).map hdD) rfl hn rfl rfl (it_listD (ee_v 0 rfl)) (blkOk_by (N := NR) (sc := defScope sLawRinged) (by decide +kernel)) ?_ ?_ (by show 3 < 9; decide) ?_ ?_
  · unfold mdOf
    rw [List.length_map, List.length_map, List.length_map, List.length_map]
  · rw [List.length_map, List.length_map]
    omega
  · intro i T d hT hd
    unfold mdOf at hd
    rw [List.getElem?_map, List.getElem?_map] at hT hd
    cases e : rs[i]? with
    | none => rw [e] at hT; cases hT
    | some p =>
      rw [e] at hT hd
      rw [← Option.some.inj hT, ← Option.some.inj hd]
      obtain ⟨x, as, e1, e2⟩ := happ p (List.mem_of_getElem? e)
      refine turn_keep (fun s H C cl fp => gg_pair rfl (gg_name 1 hn rfl (.inl rfl)) (gg_name 2 hn rfl (.inl rfl))) fun s H C cl fp => EE.d (ee_call G1 h1 (ea_cons (EE.d (ee_v 1 rfl) e1) ea_nil) ⟨x, as, rfl, rfl⟩) (congrArg hdD e2.symm)
  refine bb_setO 4 hn rfl (.inr rfl) eo_dnewN ?_
  -- the ways
  refine bb_for (fun i ρ => ∃ (ks : List HdP) (a b c : Sl), LedIn (mdOf rs) ks ∧ (∀ x, x ∈ ks ↔ ∃ p ∈ rs.take i, wayIn rs p x) ∧ ρ = [.va (D (.list (rs.map ruleD))), a, b, .va (D (.list ((mdOf rs).map hdD))), .ow (OwnN P w ks), c, .un, .un, .un]) PassesOwn.never rfl
    (it_listD (ee_v 0 rfl)) ⟨[], _, _, _, ⟨List.nodup_nil, fun x hx => nomatch hx⟩, (fun x => ⟨fun h => (nomatch h), fun ⟨p, hp, _⟩ => (nomatch hp)⟩), rfl⟩ ?_ ?_
  · rintro i T ρ' hT ⟨ks, a, b, c, hin, hks, rfl⟩
    rw [List.getElem?_map, List.getElem?_map] at hT
    cases hi : rs[i]? with
    | none => rw [hi] at hT; cases hT
    | some p =>
      rw [hi] at hT
      rw [← Option.some.inj hT]
      have hp := List.mem_of_getElem? hi
      have hok := ok.ok p hp
      obtain ⟨x, as, e1, e2⟩ := happ p hp
      have hpm : hdOf p.1 ∈ mdOf rs := List.mem_map.mpr ⟨p, hp, rfl⟩
      have htk : rs.take (i + 1) = rs.take i ++ [p] := by rw [List.take_succ, hi]; rfl
      refine ⟨_, _, gg_pair rfl (gg_name 1 hn rfl (.inl rfl)) (gg_name 2 hn rfl (.inl rfl)), ?_⟩
      refine bb_for (fun j ρ => ∃ (ks : List HdP) (c : Sl), LedIn (mdOf rs) ks ∧ (∀ y, y ∈ ks ↔ (∃ q ∈ rs.take i, wayIn rs q y) ∨ (y.1 = hdOf p.1 ∧ y.2 ∈ (headsOf p.2).take j ∧ y.2 ∈ mdOf rs)) ∧ ρ = [.va (D (.list (rs.map ruleD))), .va (D p.1), .va (D p.2), .va (D (.list ((mdOf rs).map hdD))), .ow (OwnN P w ks), c, .un, .un, .un]) PassesOwn.never rfl
        (it_listD (ee_call G2 hr (ea_cons (ee_v 2 rfl) ea_nil) ⟨p.2, hok.tr, hok.lr, hok.cr, rfl, rfl⟩)) ⟨ks, c, hin, (fun y => by rw [hks]; exact ⟨.inl, fun h => h.elim id fun h => (nomatch h.2.1)⟩), rfl⟩ ?_ ?_
      · rintro j T ρ' hT ⟨ks, c, hin, hks, rfl⟩
        rw [List.getElem?_map, List.getElem?_map] at hT
        cases hj : (headsOf p.2)[j]? with
        | none => rw [hj] at hT; cases hT
        | some h =>
          rw [hj] at hT
          rw [← Option.some.inj hT]
          have hhn : NameOk h.1 := by
            have hm := List.mem_of_getElem? hj
            unfold headsOf hdsL at hm
            obtain ⟨q, hq, e⟩ := List.mem_map.mp hm
            obtain ⟨q1, q2⟩ := List.mem_filter.mp hq
            rw [← e]
            exact (hok.tr.parts q1).1.hdName q2
          have htj : (headsOf p.2).take (j + 1) = (headsOf p.2).take j ++ [h] := by rw [List.take_succ, hj]; rfl
          have hkl := hin.len hmdl
          refine ⟨_, _, gg_name 5 hn rfl (.inl rfl), ?_⟩
          refine bb_if0 (b := decide (h ∈ mdOf rs)) (ET.to (t_inD h1 (ee_v 5 rfl) (ee_v 3 rfl) (shaped_hd hhn) (shaped_heads hmdn)) any_hd) (fun hb => ?_) (fun hb => ?_)
          · have hm := of_decide_eq_true hb
            refine bb_dputN (kk := (hdOf p.1, h)) 4 h1 rfl ee_bl (ee_tup (ead_cons (EE.d (ee_call G1 h1 (ea_cons (EE.d (ee_v 1 rfl) e1) ea_nil) ⟨x, as, rfl, rfl⟩) (by rw [e2])) (ead_cons (ee_v 5 rfl) ead_nil))) (by omega) (bb_nil (bb_nil ⟨addN ks (hdOf p.1, h), .va (D (hdD h)), hin.add hpm hm, fun y => ?_, rfl⟩))
            rw [mem_addN, hks, htj, List.mem_append, List.mem_singleton]
            constructor
            · rintro ((g | g) | g)
              · exact .inl g
              · exact .inr ⟨g.1, .inl g.2.1, g.2.2⟩
              · rw [g]
                exact .inr ⟨rfl, .inr rfl, hm⟩
            · rintro (g | ⟨g1, g2 | g2, g3⟩)
              · exact .inl (.inl g)
              · exact .inl (.inr ⟨g1, g2, g3⟩)
              · exact .inr (Prod.ext g1 g2)
          · have hm := of_decide_eq_false hb
            refine bb_nil ⟨ks, .va (D (hdD h)), hin, fun y => ?_, rfl⟩
            rw [hks, htj, List.mem_append, List.mem_singleton]
            constructor
            · rintro (g | g)
              · exact .inl g
              · exact .inr ⟨g.1, .inl g.2.1, g.2.2⟩
            · rintro (g | ⟨g1, g2 | g2, g3⟩)
              · exact .inl g
              · exact .inr ⟨g1, g2, g3⟩
              · rw [g2] at g3
                exact absurd g3 hm
      · rintro ρ' ⟨ks, c, hin, hks, rfl⟩
        rw [List.length_map, List.length_map, List.take_length] at hks
        refine bb_nil ⟨ks, _, _, _, hin, fun y => ?_, rfl⟩
        rw [hks, htk]
        constructor
        · rintro (⟨q, hq, g⟩ | g)
          · exact ⟨q, List.mem_append_left _ hq, g⟩
          · exact ⟨p, List.mem_append_right _ List.mem_cons_self, g⟩
        · rintro ⟨q, hq, g⟩
          rcases List.mem_append.mp hq with z | z
          · exact .inl ⟨q, z, g⟩
          · rw [List.mem_singleton.mp z] at g
            exact .inr g
  rintro ρ' ⟨ks, a, b, c, hin, hks, rfl⟩
  rw [List.length_map, List.length_map, List.take_length] at hks
  have hks0 : ∀ x, x ∈ ks ↔ x ∈ waysOf (sides rs) := fun x => by rw [hks, mem_ways]
  clear hks
  generalize hws : waysOf (sides rs) = ws at hks0
  -- Warshall
  refine bb_for (fun i ρ => ∃ (ks : List HdP) (m n o : Sl), LedIn (mdOf rs) ks ∧ (∀ x ∈ ks, Rch ws x.1 x.2) ∧ (∀ u v, RchS ws ((mdOf rs).take i) u v → (u, v) ∈ ks) ∧ ρ = [.va (D (.list (rs.map ruleD))), a, b, .va (D (.list ((mdOf rs).map hdD))), .ow (OwnN P w ks), c, m, n, o]) PassesOwn.never rfl
    (it_listD (ee_v 3 rfl)) ⟨ks, _, _, _, hin, (fun x hx => .one ((hks0 x).mp hx)), (fun u v r => by
      cases r with
      | one e => exact (hks0 _).mpr e
      | more r hb e => exact nomatch hb), rfl⟩ ?_ ?_
  · clear hks0 hin ks
    rintro i T ρ' hT ⟨ks0, m', n', o', hin0, hso0, hco0, rfl⟩
    rw [List.getElem?_map, List.getElem?_map] at hT
    cases hi : (mdOf rs)[i]? with
    | none => rw [hi] at hT; cases hT
    | some m =>
      rw [hi] at hT
      rw [← Option.some.inj hT]
      have htk : (mdOf rs).take (i + 1) = (mdOf rs).take i ++ [m] := by rw [List.take_succ, hi]; rfl
      refine ⟨_, _, gg_name 6 hn rfl (.inl rfl), ?_⟩
      refine bb_for (fun j ρ => ∃ (ks : List HdP) (n o : Sl), LedIn (mdOf rs) ks ∧ (∀ x ∈ ks, Rch ws x.1 x.2) ∧ (∀ x ∈ ks0, x ∈ ks) ∧ (∀ u ∈ (mdOf rs).take j, ∀ v ∈ mdOf rs, (u, m) ∈ ks0 → (m, v) ∈ ks0 → (u, v) ∈ ks) ∧ ρ = [.va (D (.list (rs.map ruleD))), a, b, .va (D (.list ((mdOf rs).map hdD))), .ow (OwnN P w ks), c, .va (D (hdD m)), n, o]) PassesOwn.never rfl
        (it_listD (ee_v 3 rfl)) ⟨ks0, _, _, hin0, hso0, (fun x hx => hx), (fun u hu => nomatch hu), rfl⟩ ?_ ?_
      · rintro j T ρ' hT ⟨ks1, n1, o1, hin1, hso1, hsub1, hdn1, rfl⟩
        rw [List.getElem?_map, List.getElem?_map] at hT
        cases hj : (mdOf rs)[j]? with
        | none => rw [hj] at hT; cases hT
        | some u0 =>
          rw [hj] at hT
          rw [← Option.some.inj hT]
          have hu0 := List.mem_of_getElem? hj
          have htj : (mdOf rs).take (j + 1) = (mdOf rs).take j ++ [u0] := by rw [List.take_succ, hj]; rfl
          refine ⟨_, _, gg_name 7 hn rfl (.inl rfl), ?_⟩
          refine bb_for (fun k ρ => ∃ (ks : List HdP) (o : Sl), LedIn (mdOf rs) ks ∧ (∀ x ∈ ks, Rch ws x.1 x.2) ∧ (∀ x ∈ ks1, x ∈ ks) ∧ (∀ v ∈ (mdOf rs).take k, (u0, m) ∈ ks0 → (m, v) ∈ ks0 → (u0, v) ∈ ks) ∧ ρ = [.va (D (.list (rs.map ruleD))), a, b, .va (D (.list ((mdOf rs).map hdD))), .ow (OwnN P w ks), c, .va (D (hdD m)), .va (D (hdD u0)), o]) PassesOwn.never rfl
            (it_listD (ee_v 3 rfl)) ⟨ks1, _, hin1, hso1, (fun x hx => hx), (fun u hu => nomatch hu), rfl⟩ ?_ ?_
          · rintro k T ρ' hT ⟨ks, o2, hin, hso, hsub, hdn, rfl⟩
            rw [List.getElem?_map, List.getElem?_map] at hT
            cases hk : (mdOf rs)[k]? with
            | none => rw [hk] at hT; cases hT
            | some v0 =>
              rw [hk] at hT
              rw [← Option.some.inj hT]
              have hv0 := List.mem_of_getElem? hk
              have htk2 : (mdOf rs).take (k + 1) = (mdOf rs).take k ++ [v0] := by rw [List.take_succ, hk]; rfl
              have hkl := hin.len hmdl
              refine ⟨_, _, gg_name 8 hn rfl (.inl rfl), ?_⟩
              refine bb_if0 (EW.t (ew_and (ew_inN (kk := (u0, m)) 4 h1 rfl (ee_tup (ead_cons (ee_v 7 rfl) (ead_cons (ee_v 6 rfl) ead_nil)))) fun _ => ew_and1 (ew_inN (kk := (m, v0)) 4 h1 rfl (ee_tup (ead_cons (ee_v 6 rfl) (ead_cons (ee_v 8 rfl) ead_nil)))))) (fun hb => ?_) (fun hb => ?_)
              · rw [Bool.and_eq_true, decide_eq_true_eq, decide_eq_true_eq] at hb
                refine bb_dputN (kk := (u0, v0)) 4 h1 rfl ee_bl (ee_tup (ead_cons (ee_v 7 rfl) (ead_cons (ee_v 8 rfl) ead_nil))) (by omega) (bb_nil (bb_nil ⟨addN ks (u0, v0), .va (D (hdD v0)), hin.add hu0 hv0, fun x hx => ?_, fun x hx => mem_addN.mpr (.inl (hsub x hx)), fun v hv h3 h4 => ?_, rfl⟩))
                · rcases mem_addN.mp hx with z | z
                  · exact hso x z
                  · rw [z]
                    exact (hso _ hb.1).trans (hso _ hb.2)
                · rw [htk2] at hv
                  rcases List.mem_append.mp hv with z | z
                  · exact mem_addN.mpr (.inl (hdn v z h3 h4))
                  · rw [List.mem_singleton.mp z]
                    exact mem_addN.mpr (.inr rfl)
              · refine bb_nil ⟨ks, .va (D (hdD v0)), hin, hso, hsub, fun v hv h3 h4 => ?_, rfl⟩
                rw [htk2] at hv
                rcases List.mem_append.mp hv with z | z
                · exact hdn v z h3 h4
                · rw [List.mem_singleton.mp z] at h4
                  rw [decide_eq_true (hsub _ (hsub1 _ h3)), decide_eq_true (hsub _ (hsub1 _ h4))] at hb
                  cases hb
          · rintro ρ' ⟨ks, o2, hin, hso, hsub, hdn, rfl⟩
            rw [List.length_map, List.length_map, List.take_length] at hdn
            refine bb_nil ⟨ks, _, _, hin, hso, fun x hx => hsub x (hsub1 x hx), fun u hu v hv h3 h4 => ?_, rfl⟩
            rw [htj] at hu
            rcases List.mem_append.mp hu with z | z
            · exact hsub _ (hdn1 u z v hv h3 h4)
            · have e := List.mem_singleton.mp z
              rw [e] at h3 ⊢
              exact hdn v hv h3 h4
      · rintro ρ' ⟨ks, n1, o1, hin, hso, hsub, hdn, rfl⟩
        rw [List.length_map, List.length_map, List.take_length] at hdn
        refine bb_nil ⟨ks, _, _, _, hin, hso, fun u v r => ?_, rfl⟩
        rw [htk] at r
        rcases r.split with r | ⟨r1, r2⟩
        · exact hsub _ (hco0 u v r)
        · have e1 := hco0 u m r1
          have e2 := hco0 m v r2
          exact hdn u (hin0.sb _ e1).1 v (hin0.sb _ e2).2 e1 e2
  · clear hks0 hin ks
    rintro ρ' ⟨ks, m', n', o', hin, hso, hco, rfl⟩
    rw [List.length_map, List.length_map, List.take_length] at hco
    have hring : ∀ h, (decide ((h, h) ∈ ks) && decide (0 < h.2)) = inRing rs h := fun h => by
      unfold inRing
      have : decide ((h, h) ∈ ks) = rchB (waysOf (sides rs)) h h := by
        rw [Bool.eq_iff_iff, decide_eq_true_eq, rchB_iff, hws]
        constructor
        · intro z
          exact hso _ z
        · intro z
          rw [← hws] at z
          have := rch_in z
          rw [hws] at this
          exact hco _ _ this
      rw [this]
    have hlm := len_madeH rs
    have hfil : ∀ xs : List Hd, (xs.map hdD).filterMap (fun d => match d with | .tuple [.str x, .int n] => if inRing rs (x, n) then some (hdD (x, n)) else none | _ => none) = (xs.filter (inRing rs)).map hdD := fun xs => by
      induction xs with
      | nil => rfl
      | cons x xs ih =>
        rw [List.map_cons, List.filterMap_cons]
        by_cases e : inRing rs x = true
        · rw [List.filter_cons_of_pos e, List.map_cons, ← ih]
          simp [hdD, e]
        · rw [List.filter_cons_of_neg e, ← ih]
          simp [hdD, e]
    refine bb_ret (EE.d (EO.d (o_lcIf (own := [("_law_one", 5)]) ((madeH rs).map hdD) (fun d => match d with | .tuple [.str x, .int n] => if inRing rs (x, n) then some (hdD (x, n)) else none | _ => none) rfl hn
      (it_listD (EO.d (o_sortedSet (hs := mdOf rs) (U := U) h1 rfl B.sorted B.set (ee_v 3 rfl) hU fun h hh => ?_))) (blkOk_by (N := NR) (sc := defScope sLawRinged) (by decide +kernel)) ?_ ?_)) ?_)
    · obtain ⟨p, hp, rfl⟩ := List.mem_map.mp hh
      exact hUm p hp
    · rw [List.length_map]
      omega
    · intro d hd
      obtain ⟨h, hh, rfl⟩ := List.mem_map.mp hd
      refine turn_if (q := inRing rs h) (fun s H C cl fp => gg_name 5 hn rfl (.inl rfl)) (fun s H C cl fp => ?_) (fun e => ?_) (fun e => ⟨hdD h, ?_, fun s H C cl fp => ee_v 5 rfl⟩)
      · exact ET.to (EW.t (ew_and (ew_inN (kk := (h, h)) 4 h1 rfl (ee_tup (ead_cons (ee_v 5 rfl) (ead_cons (ee_v 5 rfl) ead_nil)))) fun _ => ew_and1 (t_gtI (e_ixT (ee_v 5 rfl) ee_int (at_ 1 rfl rfl)) ee_int))) (hring h)
      · exact if_neg (by rw [show (h.1, h.2) = h from rfl, e]; exact Bool.false_ne_true)
      · exact if_pos (by rw [show (h.1, h.2) = h from rfl, e])
    · rw [hfil]
      rfl
end
end K53

set_option Elab.async false
set_option linter.all false
set_option maxRecDepth 100000
set_option maxHeartbeats 4000000
namespace K53
open PySem PySem.Spec PyProof.Rows L2 DL Q
section
variable {P : Program} {w : World} {K : PySem.W.Frag} {mg : Str → Option Value} {base : Heap} {f : Addr} {fd : FuncData} {aR aC aT aP : Addr}
/-- what isinstance asks of Calls -/
structure IsC (K : PySem.W.Frag) (C : Addr) : Prop where
  cl : Cls K C
  ha : PySem.W.findIn K (.ref C) "__class__" = some (some (.builtin "object.__class__"))
  hn : PySem.W.specialIn K (.builtin "object.__class__") "__get__" = some (some (.builtin "getset_descriptor.__get__"))
  ht : PySem.W.takesIn K (.builtin "object.__class__") = some true
  hm : PySem.W.mroIn K C (.type "object") = some true
theorem e_isiC {X : Cx} {ρ : List Sl} {a b : Expr} {p pos : Pos} {ch : Ch} {Dc : Addr} {q : Bool} (c : IsC X.K aC) (hm : X.mg "isinstance" = none) (ha : EE X ρ a (CallsT aC ch)) (hb : EE X ρ b (Cst (.ref Dc))) (hk : PySem.W.kitOne X.K (.ref aC) (.ref Dc) = some q) (hg : Gl X "isinstance" := by rfl) (he : starEach [a, b] X.env = (false, eval a X.env) :: starEach [b] X.env := by rfl)
    (he2 : starEach [b] X.env = (false, eval b X.env) :: starEach [] X.env := by rfl) (hpl : (backTo pos (starEach [b] X.env)).any (·.1) = false := by rfl) : EE X ρ (.Call (.Name "isinstance" p) [a, b] [] pos) (D (.bool q)) :=
  ee_callB call_isi hm boot_isinstance (ea_cons ha (ea_cons hb ea_nil he2) he) (fun Hs H vs Q s hv qq => by
    obtain ⟨v, u, rfl, h1, h2⟩ := tys2 hv
    obtain ⟨x, dx, d, xs, rfl, hx, _, _⟩ := h1
    have h2' : u = .ref Dc := h2
    subst h2'
    exact ⟨_, _, .ref aC, .ref Dc, q, rfl, .own Dc, .base (.ins (s _ _ hx) c.cl c.ha c.hn c.ht c.hm), hk, qq _ _ _ (Ext.refl s) (.bl _)⟩) hg (he := he) (hpl := hpl)
theorem isn_calls {X : Cx} {ρ : List Sl} {a : Expr} {ch : Ch} {pos : Pos} {jp pp} (ha : EE X ρ a (CallsT aC ch)) : EE X ρ (.Compare a [.Is] [.Constant .none jp pp] pos) (D (.bool false)) := ee_cmp op_isN (nomark _) ha ee_non (fun Hs H x y Q s hx hy q => by
  obtain ⟨z, dx, d, xs, rfl, _⟩ := hx
  exact ⟨dq_none hy, q _ _ _ (Ext.refl s) (.bl _)⟩)
theorem chL_nb (ch : Ch) : nb (chL ch) = true := by
  unfold chL
  rw [nb]
  exact nbL_mem.mpr fun d hd => by
    obtain ⟨p, _, rfl⟩ := List.mem_map.mp hd
    simp [chPair, hdD, nb, nbL]
theorem chL_shaped {ch : Ch} (h : ∀ p ∈ ch, NameOk p.1.1) : SeqAt.shaped (chL ch) = true := by
  have h1 : PyData.canLayAll0 (ch.map chPair) = true := canLayAll_mem.mpr fun a ha => by
    obtain ⟨p, hp, rfl⟩ := List.mem_map.mp ha
    simp [chPair, hdD, PyData.canLay0, PyData.canLayAll0, strOk_name (h p hp)]
  have h2 : PyData.depthAll (ch.map chPair) ≤ 2 := depthAll_le fun a ha => by
    obtain ⟨p, hp, rfl⟩ := List.mem_map.mp ha
    simp [chPair, hdD, PyData.depth, PyData.depthAll]
  unfold chL SeqAt.shaped
  rw [Bool.and_eq_true]
  refine ⟨by simpa [PyData.canLay0] using h1, decide_eq_true ?_⟩
  rw [PyData.depth]
  omega
/-! _law_right -/
def S_right : List Ty → Ty → Prop := fun Ts T => ∃ (rs : Rl) (U : List Hd), RlOk rs ∧ U.length ≤ 4 ∧ (∀ p ∈ rs, hdOf p.1 ∈ U) ∧ cprod (ringH rs) ≤ 3000 ∧ Ts = [D (.list (rs.map ruleD))] ∧ T = D (.bool true)
theorem sc_right : FnScope ["_law_some", "_law_rules", "_law_found", "_law_row"] ["_law_some"] (defScope sLawRight) := ⟨rfl, rfl, rfl, by decide +kernel, rfl, by decide +kernel, by decide +kernel⟩
theorem ok_right (B : Bi mg) (c : IsC K aC) (gC : mg "Calls" = some (.ref aC)) (gP : mg "Paper" = some (.ref aP)) (kC : PySem.W.kitOne K (.ref aC) (.ref aC) = some true) (kP : PySem.W.kitOne K (.ref aC) (.ref aP) = some true)
    (MR : MkI P w K mg base 13 "Rules" aR (spR aR)) (MC : MkI P w K mg base 4 "Calls" aC (spC aC)) (ML : Me P w K mg base 13 aC "lets" (S_lets aR aC)) (MT : Me P w K mg base 1 aC "told" (S_ctold aC)) (G1 : FnE P w K mg base 14 "calls_of" (S_callsof aR aC aT))
    (G2 : Fn P w K mg base 1 "_law_choices" S_choices) (G3 : Fn P w K mg base 10 "_law_ringed" S_ringed) (F : FnP K "_law_right" "_law_right" sLawRight f fd) : FnOk P w K mg base CX0 15 f fd ["_law_some"] (spS S_right) := by
  refine fn_ok F sc_right (by rintro _ _ ⟨_, _, _, _, _, _, rfl, rfl⟩; rfl) ?_
  rintro cdv A outer s H E hr _ _ ⟨rs, U, ok, hU, hUm, hcp, rfl, rfl⟩
  have h1 : Room 1 _ := hr.mono (by decide)
  have h5 : Room 5 _ := hr.mono (by decide)
  have h10 : Room 10 _ := hr.mono (by decide)
  have h13 : Room 13 _ := hr.mono (by decide)
  have hn := sc_right.nd
  have hlr := len_ring ok
  refine bb_set 1 hn rfl (.inl rfl) (ee_mkR MR hr (EO.d (o_list B.list (ee_v 0 rfl))) ok) ?_
  refine bb_set (T := FoundT aC (pickCh rs)) 2 hn rfl (.inl rfl) (ee_callE G1 hr (ea_cons (ee_v 1 rfl) ea_nil) ⟨rs, ok, rfl, rfl⟩ (fun H v h => h.2) (fun c h => by have := h.1; omega)) ?_
  refine bb_for (fun i ρ => (∀ c ∈ (choices (ringH rs)).take i, letsB c rs = false) ∧ ∃ a : Sl, ρ = [.va (D (.list (rs.map ruleD))), .va (RulesT aR rs), .va (FoundT aC (pickCh rs)), a]) PassesOwn.never rfl
    (it_listD (ee_call G2 h1 (ea_cons (ee_call G3 h10 (ea_cons (ee_v 0 rfl) ea_nil) ⟨rs, U, ok, hU, hUm, rfl, rfl⟩) ea_nil) ⟨ringH rs, fun h hh => ⟨(ring_ok ok hh).2.1, by have := (ring_ok ok hh).2.2; omega⟩, hcp, by omega, rfl, rfl⟩)) ⟨(fun c hc => nomatch hc), _, rfl⟩ ?_ ?_
  · rintro i T ρ' hT ⟨hno, a, rfl⟩
    rw [List.getElem?_map, List.getElem?_map] at hT
    cases hi : (choices (ringH rs))[i]? with
    | none => rw [hi] at hT; cases hT
    | some ch =>
      rw [hi] at hT
      rw [← Option.some.inj hT]
      have hm := List.mem_of_getElem? hi
      obtain ⟨c1, c2, c3⟩ := choice_ok ok hm
      have htk : (choices (ringH rs)).take (i + 1) = (choices (ringH rs)).take i ++ [ch] := by rw [List.take_succ, hi]; rfl
      have hnm : ∀ p ∈ ch, NameOk p.1.1 := fun p hp => (c1 p hp).nm
      refine ⟨_, _, gg_name 3 hn rfl (.inl rfl), ?_⟩
      refine bb_if0 (et_val (ee_meth ML h13 (ee_mkC MC h5 (ee_v 3 rfl) c1 c2 c3) (ins_calls rfl) (ea_cons (ee_v 1 rfl) ea_nil) ⟨ch, rs, c1, ok, rfl, rfl⟩)) (fun hl => ?_) (fun hl => ?_)
      · have hp : pickCh rs = some ch := by
          unfold pickCh
          rw [← List.take_append_drop (i + 1) (choices (ringH rs)), htk, List.find?_append, List.find?_append, List.find?_eq_none.mpr (fun c hc => by rw [hno c hc]; exact Bool.false_ne_true)]
          simp [hl]
        rw [hp]
        refine bb_ret (EE.d (ee_and (e_isiC c B.isinstance (ee_v (T := CallsT aC ch) 2 rfl) (ee_globC gC) kC) fun _ => ee_and (e_isiC c B.isinstance (ee_v (T := CallsT aC ch) 2 rfl) (ee_globC gP) kP) fun _ =>
          ee_and (e_eqD h1 (ee_meth0 MT h1 (ee_v (T := CallsT aC ch) 2 rfl) (ins_calls rfl) ⟨ch, rfl, rfl⟩) (ee_v 3 rfl) (chL_shaped hnm) (chL_shaped hnm)) fun _ =>
          ee_one (ee_meth ML h13 (ee_v (T := CallsT aC ch) 2 rfl) (ins_calls rfl) (ea_cons (ee_v 1 rfl) ea_nil) ⟨ch, rs, c1, ok, rfl, rfl⟩)) ?_)
        rw [(eqv_nb (chL_nb ch) (chL_nb ch)).mpr rfl, hl]
        rfl
      · refine bb_nil ⟨fun c' hc' => ?_, _, rfl⟩
        rw [htk] at hc'
        rcases List.mem_append.mp hc' with z | z
        · exact hno c' z
        · rw [List.mem_singleton.mp z]
          exact hl
  · rintro ρ' ⟨hno, a, rfl⟩
    rw [List.length_map, List.length_map, List.take_length] at hno
    have hp : pickCh rs = none := by
      unfold pickCh
      exact List.find?_eq_none.mpr fun c hc => by rw [hno c hc]; exact Bool.false_ne_true
    rw [hp]
    exact bb_ret (EE.d (e_isN (ee_v (T := D .none) 2 rfl)) rfl)
end
end K53

set_option Elab.async false
set_option linter.all false
set_option maxRecDepth 100000
set_option maxHeartbeats 4000000
namespace DL
open PySem PySem.Spec PyProof.Rows L2 Q
def tsOf (X : Cx) (sts : List Stmt) : Addr → Value → Option Addr → TS := fun a cls d D σ H => ∀ (oe : Obj) (pn : List (Addr × Obj)), Zc cls d oe → (∃ vs, oe.data = .fields vs) → RSs (X.suite a ((a, oe) :: pn)) sts D σ H
theorem ps_tryG {X : Cx} {x n : Str} {c : Value} {i : Nat} {body suite : List Stmt} {b₀ : Stmt} {np pos pos' : Pos} (hs : X.stack = X.env :: X.outer) (hf : X.env.frame = some X.env.locals) (hN : X.N.Nodup) (hi : X.N[i]? = some n) (hln : X.env.kindOf n = some .local) (hc : Names X x c) :
    PS X (.Try body [.ExceptHandler (some (.Name x np)) (some n) (b₀ :: suite) pos'] [] [] pos) (fun D σ H => ∀ pn xe, Takes (X.tr pn xe) (wAs X.K c i (tsOf X (b₀ :: suite)) (fun _ _ _ _ => False) D) → RSs (X.tr pn xe) body D σ H) :=
  ps_try_as (tb := fun W D σ H => ∀ pn xe, Takes (X.tr pn xe) W → RSs (X.tr pn xe) body D σ H) (ts := tsOf X (b₀ :: suite)) hs hf hN hi hln hc takes0
    (fun W pn xe tk _ => ⟨fun pins s σ H D I h => h pn xe tk pins s I⟩) (fun a oe cls d pn hz hf => ⟨fun pins s σ H D I h => h oe pn hz hf pins s I⟩)
/-- y = f(e, ..), f may let an exception out -/
theorem rs_setCallE {X : Cx} {ρ : List Sl} {F Hs H : Hp} {σ : L2.St} {D : Ends} {W : WX} {x y : Str} {e : Expr} {es : List Expr} {p pos pos' posA : Pos} {k : Nat} {S : List Ty → En → Prop} {Ts : List Ty} {en : En} (i : Nat) (tk : Takes X W) (G : FnE X.prog X.w X.K X.mg X.base k x S) (hr : Room k X.A) (hN : X.N.Nodup) (hi : X.N[i]? = some y) (hy : Loc X.env.scope y)
    (E1 : ER ρ F Hs H σ) (ha : EA X ρ (e :: es) Ts) (hS : S Ts en) (ok : ∀ v Hs' H', Ext Hs H Hs' H' → en.rt.p Hs' v → D.nx (σ.set i (some v)) H') (er : ∀ c Hs' H', Ext Hs H Hs' H' → en.er c → W c none σ H')
    (hg : Gl X x := by rfl) (hdb : (x == ("__debug__" : Str)) = false := by decide) (he : starEach (e :: es) X.env = (false, eval e X.env) :: starEach es X.env := by rfl) (hpl : (backTo pos (starEach es X.env)).any (·.1) = false := by rfl)
    (hs : swapsWith (.Call (.Name x p) (e :: es) [] pos) (some (.Name y pos')) posA.line X.env = pure false := by rfl) (hf : X.fn y = true ∨ X.env.scope.names.lookup y = some .local := by first | exact .inl rfl | exact .inr rfl | assumption) :
    RSs X [.Assign [.Name y pos'] (.Call (.Name x p) (e :: es) [] pos) posA] D σ H := by
  obtain ⟨f1, fd1, ps1, G, hm1, hk1, hb1⟩ := G.ex
  refine RSs.of (pss_one (ps_set (i := i) hN hi hy (pe_callS (E := WE W) G hr hg hm1 hk1 hb1 (fun σ => passAt tk σ) pa_RA hdb he hpl) hs hf)) ?_
  refine ha F Hs H σ _ E1 fun vs Hs1 H1 X1 hvs => ?_
  exact ⟨Ts, en, Hs1, hS, X1.b, hvs, fun v Hs2 H2 X2 hv => ok v Hs2 H2 (X1.trans X2) hv, fun c Hs2 H2 X2 hc => er c Hs2 H2 (X1.trans X2) hc⟩
end DL
namespace K53
open PySem PySem.Spec PyProof.Rows L2 DL Q
section
variable {P : Program} {w : World} {K : PySem.W.Frag} {mg : Str → Option Value} {base : Heap} {f : Addr} {fd : FuncData} {aR aC aT aP aE aN : Addr}
/-! _law_answer -/
noncomputable def AnsT (aC : Addr) (rs : Rl) : Ty := if 3000 < cprod (ringH rs) then LstT [D .none, D (.list [.bool true, .bool false])] else LstT [FoundT aC (pickCh rs), D (.list [])]
def S_answer (aR aC : Addr) : List Ty → Ty → Prop := fun Ts T => ∃ rs : Rl, RlOk rs ∧ Ts = [RulesT aR rs] ∧ T = AnsT aC rs
abbrev NA : List Str := ["_law_rules", "_law_found", "_law_kinds", "e"]
theorem sc_answer : FnScope NA ["_law_rules"] (defScope sLawAnswer) := ⟨rfl, rfl, rfl, by decide +kernel, rfl, by decide +kernel, by decide +kernel⟩
theorem e_isE {X : Cx} {ρ : List Sl} {a : Addr} {oe : Obj} {pn : List (Addr × Obj)} {e1 e2 : Expr} {p pos : Pos} {Dc : Addr} {q : Bool} (c : ExcC X.K aT) (hz : Zc (.ref aT) none oe) (hf : ∃ vs, oe.data = .fields vs) (hm : X.mg "isinstance" = none) (ha : EE (X.suite a ((a, oe) :: pn)) ρ e1 (Cst (.ref a))) (hb : EE (X.suite a ((a, oe) :: pn)) ρ e2 (Cst (.ref Dc)))
    (hk : PySem.W.kitOne X.K (.ref aT) (.ref Dc) = some q) (hg : Gl (X.suite a ((a, oe) :: pn)) "isinstance" := by rfl) (he : starEach [e1, e2] X.env = (false, eval e1 X.env) :: starEach [e2] X.env := by rfl)
    (he2 : starEach [e2] X.env = (false, eval e2 X.env) :: starEach [] X.env := by rfl) (hpl : (backTo pos (starEach [e2] X.env)).any (·.1) = false := by rfl) : EE (X.suite a ((a, oe) :: pn)) ρ (.Call (.Name "isinstance" p) [e1, e2] [] pos) (D (.bool q)) :=
  ee_callB (call_isE c hz hf) hm boot_isinstance (ea_cons ha (ea_cons hb ea_nil he2) he) (fun Hs H vs Q s hv qq => by
    obtain ⟨v, u, rfl, h1, h2⟩ := tys2 hv
    have h1' : v = .ref a := h1
    have h2' : u = .ref Dc := h2
    subst h1' h2'
    exact ⟨_, .ref Dc, q, rfl, fun u r => r, hk, qq _ _ _ (Ext.refl s) (.bl _)⟩) hg (he := he) (hpl := hpl)
theorem ok_answer (B : Bi mg) (c : ExcC K aT) (gE : mg "EndError" = some (.ref aE)) (gT : mg "TooMany" = some (.ref aT)) (gN : mg "NoPaper" = some (.ref aN)) (hex : PySem.W.exmOne K (.ref aT) (.ref aE) = some true) (kT : PySem.W.kitOne K (.ref aT) (.ref aT) = some true) (kN : PySem.W.kitOne K (.ref aT) (.ref aN) = some false)
    (G1 : FnE P w K mg base 14 "calls_of" (S_callsof aR aC aT)) (F : FnP K "_law_answer" "_law_answer" sLawAnswer f fd) : FnOk P w K mg base CX0 15 f fd ["_law_rules"] (spS (S_answer aR aC)) := by
  refine fn_ok F sc_answer (by rintro _ _ ⟨_, _, rfl, rfl⟩; rfl) ?_
  rintro cdv A outer s Hz E hr _ _ ⟨rs, ok, rfl, rfl⟩
  have hn := sc_answer.nd
  refine bb_set 1 hn rfl (.inl rfl) ee_non ?_
  refine bb_set 2 hn rfl (.inl rfl) (ee_lst ead_nil) ?_
  -- what is behind
  have endOk : cprod (ringH rs) ≤ 3000 → BB (cx0 P w K mg base NA "_law_answer" (defScope sLawAnswer) f cdv A outer s Hz E) [.va (RulesT aR rs), .va (FoundT aC (pickCh rs)), .va (D (.list [])), .un] [(defBody sLawAnswer).getD 3 (.Pass ⟨0, 0, 0, 0⟩)] { nx := fun _ => ∀ H, (AnsT aC rs).p H .non, rt := AnsT aC rs } := fun h => by
    refine bb_ret (EE.ty (ee_lstT (ea_cons (ee_v 1 rfl) (ea_cons (ee_v 2 rfl) ea_nil))) ?_)
    unfold AnsT
    rw [if_neg (by omega)]
  have endEr : 3000 < cprod (ringH rs) → BB (cx0 P w K mg base NA "_law_answer" (defScope sLawAnswer) f cdv A outer s Hz E) [.va (RulesT aR rs), .va (D .none), .va (D (.list [.bool true, .bool false])), .un] [(defBody sLawAnswer).getD 3 (.Pass ⟨0, 0, 0, 0⟩)] { nx := fun _ => ∀ H, (AnsT aC rs).p H .non, rt := AnsT aC rs } := fun h => by
    refine bb_ret (EE.ty (ee_lstT (ea_cons (ee_v 1 rfl) (ea_cons (ee_v 2 rfl) ea_nil))) ?_)
    unfold AnsT
    rw [if_pos h]
  intro W F Hs H σ D tk ER1 g
  refine RSs.cons (ps_tryG (X := cx0 P w K mg base NA "_law_answer" (defScope sLawAnswer) f cdv A outer s Hz E) (x := "EndError") (n := "e") (i := 3) (c := .ref aE) rfl rfl hn rfl rfl ⟨rfl, by decide, Or.inl gE⟩) ?_
  intro pn xe tk'
  refine rs_setCallE 1 tk' G1 hr hn rfl (Or.inl rfl) ER1 (ea_cons (ee_v (T := RulesT aR rs) 0 rfl) ea_nil) ⟨rs, ok, rfl, rfl⟩ (fun v Hs2 H2 X12 hv => ?_) (fun cl Hs2 H2 X12 he => ?_)
  · exact endOk hv.1 W F Hs2 H2 _ D tk ((ER1.ext X12).set 1 hv.2) (g.mono X12.a)
  · obtain ⟨hcp, rfl⟩ := he
    refine ⟨true, hex, fun _ a ha oe pn2 hz hf => ?_, fun z => nomatch z⟩
    have E3 := (ER1.ext X12).set 3 (T := Cst (.ref a)) (v := .ref a) rfl
    refine (bb_set (T := DL.D (.list [.bool true, .bool false])) 2 hn rfl (.inl rfl) (ee_lst (ead_cons (e_isE c hz hf B.isinstance (ee_v 3 rfl) (ee_globC gT) kT) (ead_cons (e_isE c hz hf B.isinstance (ee_v 3 rfl) (ee_globC gN) kN) ead_nil)))
      (bb_nil (E := { nx := fun ρ' => ρ' = [.va (RulesT aR rs), .va (DL.D .none), .va (DL.D (.list [.bool true, .bool false])), .va (Cst (.ref a))], rt := ⟨fun _ _ => False, fun _ h => h⟩ }) rfl)) (fun _ _ _ _ => False) F Hs2 H2 _ _ takes0 E3
      ⟨fun ρ' Hs' H' σ' e s' E4 => ?_, fun _ _ _ _ _ _ z => z.elim, fun _ _ _ _ z => z.elim, fun _ _ _ _ z => z.elim, fun _ _ _ _ z => z.elim, fun _ _ _ _ _ z => z.elim⟩
    subst e
    exact endEr hcp W F Hs' H' _ D tk (E4.un 3 none) (g.mono (X12.a.trans s'))
end
end K53

set_option Elab.async false
set_option linter.all false
set_option maxRecDepth 100000
set_option maxHeartbeats 4000000
/-! plain: the rules that call themselves -/
namespace Q
open PySem DL K53
def dnRest (c : Int) : List PyData := (List.range (c - 1).toNat).map fun k : Nat => .int (10 + (1 + (k : Int)))
def dnL (y : Str) (h : Hd) : PyData := .tuple (.str h.1 :: .tuple [.str y, .int 10] :: dnRest h.2)
def dnR (h : Hd) : PyData := .tuple (.str h.1 :: .int 10 :: dnRest h.2)
def dnRule (y : Str) (h : Hd) : PyData × PyData := (dnL y h, dnR h)
structure ManyOk (y : Str) (hz : List Hd) : Prop where
  y : NameOk y
  nd : hz.Nodup
  ok : ∀ h ∈ hz, NameOk h.1 ∧ 2 ≤ h.2 ∧ h.2 ≤ 9
  ln : hz.length ≤ 5
theorem rest_len {c : Int} (h : 1 ≤ c) : (((dnRest c).length : Nat) : Int) = c - 1 := by
  unfold dnRest
  rw [List.length_map, List.length_range]
  omega
theorem rest_int {c : Int} {d : PyData} (h : d ∈ dnRest c) : ∃ i : Int, d = .int i ∧ 11 ≤ i ∧ i < 10 + c := by
  unfold dnRest at h
  obtain ⟨k, hk, rfl⟩ := List.mem_map.mp h
  have := List.mem_range.mp hk
  exact ⟨_, rfl, by omega, by omega⟩
theorem partsL_ints : ∀ {ds : List PyData}, (∀ d ∈ ds, ∃ i, d = PyData.int i) → partsL ds = ds
  | [], _ => by rw [partsL]
  | d :: ds, h => by
    obtain ⟨i, rfl⟩ := h d List.mem_cons_self
    rw [partsL, partsL_ints fun x hx => h x (List.mem_cons_of_mem _ hx), parts]
    rfl
theorem hd_dnL {y : Str} {h : Hd} (g : 1 ≤ h.2) : hdOf (dnL y h) = h := by
  have := rest_len g
  refine Prod.ext rfl ?_
  show (((.tuple [.str y, .int 10] :: dnRest h.2 : List PyData).length : Nat) : Int) = h.2
  rw [List.length_cons]
  omega
theorem hd_dnR {h : Hd} (g : 1 ≤ h.2) : hdOf (dnR h) = h := by
  have := rest_len g
  refine Prod.ext rfl ?_
  show (((.int 10 :: dnRest h.2 : List PyData).length : Nat) : Int) = h.2
  rw [List.length_cons]
  omega
theorem parts_dnR (h : Hd) : parts (dnR h) = dnR h :: .int 10 :: dnRest h.2 := by
  unfold dnR
  rw [parts_app, partsL_ints]
  intro d hd
  rcases List.mem_cons.mp hd with z | z
  · exact ⟨10, z⟩
  · obtain ⟨i, e, _⟩ := rest_int z
    exact ⟨i, e⟩
theorem parts_dnL (y : Str) (h : Hd) : parts (dnL y h) = dnL y h :: .tuple [.str y, .int 10] :: .int 10 :: dnRest h.2 := by
  unfold dnL
  rw [parts_app, partsL, partsL_ints fun d hd => by obtain ⟨i, e, _⟩ := rest_int hd; exact ⟨i, e⟩, parts_app, partsL_ints (by simp)]
  rfl
theorem pl_rest {c : Int} (h : c ≤ 9) : ∀ d ∈ dnRest c, PlP 1 1 (fun _ => True) d := fun d hd => by
  obtain ⟨i, rfl, h1, h2⟩ := rest_int hd
  exact PlP.blank (bl := fun _ => True) (by omega) (by omega) trivial
theorem rule_dn {y : Str} {h : Hd} (hy : NameOk y) (g : NameOk h.1 ∧ 2 ≤ h.2 ∧ h.2 ≤ 9) : RuleOk (dnRule y h) := by
  have hl := rest_len (show 1 ≤ h.2 by omega)
  have p1 : PlP 2 2 (fun _ => True) (.tuple [.str y, .int 10]) := PlP.app (as := [.int 10]) hy (by simp) fun a ha => by rw [List.mem_singleton.mp ha]; exact PlP.blank (bl := fun _ => True) (by decide) (by decide) trivial
  have pL : PlP 3 19 (fun _ => True) (dnL y h) := (PlP.app (L := 2) (C := 2) (as := .tuple [.str y, .int 10] :: dnRest h.2) g.1 (by rw [List.length_cons]; omega) fun a ha => by
    rcases List.mem_cons.mp ha with z | z
    · rw [z]; exact p1
    · exact (pl_rest g.2.2 a z).mono (by decide) (by decide) fun _ h => h).mono (Nat.le_refl _) (by rw [List.length_cons]; omega) fun _ h => h
  have pR : PlP 2 10 (fun _ => True) (dnR h) := (PlP.app (L := 1) (C := 1) (as := .int 10 :: dnRest h.2) g.1 (by rw [List.length_cons]; omega) fun a ha => by
    rcases List.mem_cons.mp ha with z | z
    · rw [z]; exact PlP.blank (bl := fun _ => True) (by decide) (by decide) trivial
    · exact pl_rest g.2.2 a z).mono (Nat.le_refl _) (by rw [List.length_cons]; omega) fun _ h => h
  refine ⟨pL.tm, pR.tm, rfl, Nat.le_trans pL.lv (by decide), Nat.le_trans pR.lv (by decide), Nat.le_trans pL.ct (by decide), Nat.le_trans pR.ct (by decide), fun i hi => ?_⟩
  have hi' : PyData.int i ∈ parts (dnR h) := hi
  show PyData.int i ∈ parts (dnL y h)
  rw [parts_dnR] at hi'
  rw [parts_dnL]
  rcases List.mem_cons.mp hi' with z | z
  · cases z
  · exact List.mem_cons_of_mem _ (List.mem_cons_of_mem _ z)
def rsM (y : Str) (hz : List Hd) : Rl := hz.map (dnRule y)
theorem rsM_ok {y : Str} {hz : List Hd} (h : ManyOk y hz) : RlOk (rsM y hz) := by
  refine ⟨fun p hp => ?_, ?_⟩
  · obtain ⟨x, hx, rfl⟩ := List.mem_map.mp hp
    exact rule_dn h.y (h.ok x hx)
  · unfold rsM
    rw [List.length_map]
    have := h.ln
    omega
theorem md_rsM {y : Str} {hz : List Hd} (h : ManyOk y hz) : mdOf (rsM y hz) = hz := by
  unfold mdOf rsM
  rw [List.map_map]
  have : ∀ xs : List Hd, (∀ x ∈ xs, 1 ≤ x.2) → xs.map ((fun p : PyData × PyData => hdOf p.1) ∘ dnRule y) = xs := by
    intro xs
    induction xs with
    | nil => intro _; rfl
    | cons x xs ih =>
      intro g
      rw [List.map_cons, ih fun z hz => g z (List.mem_cons_of_mem _ hz)]
      show hdOf (dnL y x) :: xs = _
      rw [hd_dnL (g x List.mem_cons_self)]
  exact this hz fun x hx => by have := (h.ok x hx).2.1; omega
theorem ring_rsM {y : Str} {hz : List Hd} (h : ManyOk y hz) : ringH (rsM y hz) = hz.mergeSort hle := by
  have hm : madeH (rsM y hz) = hz.mergeSort hle := by
    unfold madeH madeU
    have e : (rsM y hz).map (fun p => hdOf p.1) = hz := md_rsM h
    rw [e]
    exact sort_same (nodup_uniqH _) h.nd fun x => mem_uniqH
  unfold ringH
  rw [hm]
  refine List.filter_eq_self.mpr fun x hx => ?_
  have hx' : x ∈ hz := List.mem_mergeSort.mp hx
  have hc := h.ok x hx'
  unfold inRing
  rw [Bool.and_eq_true, decide_eq_true_eq, rchB_iff]
  refine ⟨.one (mem_ways.mpr ⟨dnRule y x, List.mem_map.mpr ⟨x, hx', rfl⟩, ?_, ?_, ?_⟩), by omega⟩
  · show x = hdOf (dnL y x)
    rw [hd_dnL (by omega)]
  · show x ∈ headsOf (dnR x)
    unfold headsOf hdsL
    rw [parts_dnR]
    refine List.mem_map.mpr ⟨dnR x, List.mem_filter.mpr ⟨List.mem_cons_self, rfl⟩, hd_dnR (by omega)⟩
  · show x ∈ mdOf (rsM y hz)
    rw [md_rsM h]
    exact hx'
/-! products -/
theorem fold_mul : ∀ (hs : List Hd) (n : Nat), hs.foldl (fun n h => n * h.2.toNat) n = n * hs.foldl (fun n h => n * h.2.toNat) 1
  | [], n => by simp
  | h :: hs, n => by
    rw [List.foldl_cons, List.foldl_cons, fold_mul hs (n * h.2.toNat), fold_mul hs (1 * h.2.toNat), Nat.one_mul, Nat.mul_assoc]
theorem cprod_cons (h : Hd) (hs : List Hd) : cprod (h :: hs) = h.2.toNat * cprod hs := by
  unfold cprod
  rw [List.foldl_cons, fold_mul, Nat.one_mul]
theorem cprod_perm {xs ys : List Hd} (p : xs.Perm ys) : cprod xs = cprod ys := by
  induction p with
  | nil => rfl
  | cons x p ih => rw [cprod_cons, cprod_cons, ih]
  | swap x y l => rw [cprod_cons, cprod_cons, cprod_cons, cprod_cons, Nat.mul_left_comm]
  | trans p q i j => rw [i, j]
theorem cprod_sort (hz : List Hd) : cprod (hz.mergeSort hle) = cprod hz := cprod_perm (List.mergeSort_perm _ _)
/-! the first choice -/
theorem first_aux : ∀ (hs : List Hd) (found : List Ch) (c : Ch) (r : List Ch), found = c :: r → (∀ h ∈ hs, 1 ≤ h.2) → ∃ r', hs.foldl chStep found = (c ++ hs.map fun h => (h, (0 : Int))) :: r'
  | [], _, c, r, e, _ => ⟨r, by rw [e]; simp⟩
  | h :: hs, _, c, r, e, g => by
    subst e
    have h1 := g h List.mem_cons_self
    obtain ⟨m, hm⟩ : ∃ m, h.2.toNat = m + 1 := ⟨h.2.toNat - 1, by omega⟩
    have e2 : ∃ r2, chStep (c :: r) h = (c ++ [(h, (0 : Int))]) :: r2 := by
      unfold chStep
      rw [List.flatMap_cons, hm, List.range_succ_eq_map, List.map_cons]
      exact ⟨_, rfl⟩
    obtain ⟨r2, e2⟩ := e2
    obtain ⟨r', e3⟩ := first_aux hs _ _ r2 e2 fun x hx => g x (List.mem_cons_of_mem _ hx)
    exact ⟨r', by rw [List.foldl_cons, e3, List.map_cons, List.append_assoc]; rfl⟩
def ch0 (hs : List Hd) : Ch := hs.map fun h => (h, (0 : Int))
theorem first_choice {hs : List Hd} (g : ∀ h ∈ hs, 1 ≤ h.2) : ∃ r, choices hs = ch0 hs :: r := by
  obtain ⟨r, e⟩ := first_aux hs [[]] [] [] rfl g
  exact ⟨r, by rw [choices, e]; rfl⟩
theorem getC_ch0 {hs : List Hd} {h : Hd} (g : h ∈ hs) : getC (ch0 hs) h = some 0 := by
  induction hs with
  | nil => cases g
  | cons x xs ih =>
    unfold getC ch0 at ih ⊢
    rw [List.map_cons, List.find?_cons]
    by_cases e : x = h
    · rw [decide_eq_true (show (x, (0 : Int)).1 = h from e)]
      rfl
    · rw [decide_eq_false (show ¬ (x, (0 : Int)).1 = h from e)]
      exact ih ((List.mem_cons.mp g).resolve_left fun z => e z.symm)
theorem side_rsM {y : Str} {hz : List Hd} (h : ManyOk y hz) {c : PyData × PyData} (hc : c ∈ sides (rsM y hz)) : ∃ x ∈ hz, c = dnRule y x := by
  obtain ⟨p, hp, e, h1, h2⟩ := mem_sides.mp hc
  obtain ⟨x, hx, rfl⟩ := List.mem_map.mp hp
  refine ⟨x, hx, Prod.ext e ?_⟩
  have h1' : c.2 ∈ parts (dnR x) := h1
  rw [parts_dnR] at h1'
  unfold inMade at h2
  rw [Bool.and_eq_true] at h2
  rcases List.mem_cons.mp h1' with z | z
  · exact z
  · exfalso
    rcases List.mem_cons.mp z with z | z
    · rw [z] at h2
      cases h2.1
    · obtain ⟨i, e, _⟩ := rest_int z
      rw [e] at h2
      cases h2.1
theorem lets_rsM {y : Str} {hz : List Hd} (h : ManyOk y hz) {hs : List Hd} (hm : ∀ x, x ∈ hz → x ∈ hs) : letsB (ch0 hs) (rsM y hz) = true := by
  have key : ∀ c ∈ sides (rsM y hz), hasB (ch0 hs) c.1 = true ∧ hasB (ch0 hs) c.2 = true ∧ PyData.eqv (stD (ch0 hs) c.1) (stD (ch0 hs) c.2) = false ∧ isPartB (stD (ch0 hs) c.2) (stD (ch0 hs) c.1) = true := fun c hc => by
    obtain ⟨x, hx, rfl⟩ := side_rsM h hc
    have hx2 := (h.ok x hx).2.1
    have g := getC_ch0 (hm x hx)
    have eL := hd_dnL (y := y) (show 1 ≤ x.2 by omega)
    have eR := hd_dnR (show 1 ≤ x.2 by omega)
    have sL : stD (ch0 hs) (dnL y x) = .tuple [.str y, .int 10] := by
      show (match getC (ch0 hs) (hdOf (dnL y x)) with | some p => (PyData.tuple [.str y, .int 10] :: dnRest x.2).getD p.toNat .none | none => .none) = _
      rw [eL, g]
      rfl
    have sR : stD (ch0 hs) (dnR x) = .int 10 := by
      show (match getC (ch0 hs) (hdOf (dnR x)) with | some p => (PyData.int 10 :: dnRest x.2).getD p.toNat .none | none => .none) = _
      rw [eR, g]
      rfl
    refine ⟨?_, ?_, ?_, ?_⟩
    · show (getC (ch0 hs) (hdOf (dnL y x))).isSome = true
      rw [eL, g]
      rfl
    · show (getC (ch0 hs) (hdOf (dnR x))).isSome = true
      rw [eR, g]
      rfl
    · show PyData.eqv (stD (ch0 hs) (dnL y x)) (stD (ch0 hs) (dnR x)) = false
      rw [sL, sR]
      rfl
    · show isPartB (stD (ch0 hs) (dnR x)) (stD (ch0 hs) (dnL y x)) = true
      rw [sL, sR]
      unfold isPartB
      rw [parts_app, partsL_ints (by simp)]
      simp [PyData.eqv]
  have hb : (sides (rsM y hz)).any (badB (ch0 hs) (rsM y hz)) = false := by
    rw [List.any_eq_false]
    intro c hc
    obtain ⟨k1, k2, k3, k4⟩ := key c hc
    unfold badB
    rw [k1, k2, k3, k4]
    simp
  have hs0 : sameOf (ch0 hs) (rsM y hz) (sides (rsM y hz)) = [] := by
    unfold sameOf
    refine List.filterMap_eq_nil_iff.mpr fun c hc => ?_
    obtain ⟨k1, k2, k3, k4⟩ := key c hc
    unfold sameF
    rw [k3]
    simp
  unfold letsB
  rw [hb, hs0]
  rfl
theorem pick_rsM {y : Str} {hz : List Hd} (h : ManyOk y hz) : pickCh (rsM y hz) = some (ch0 (hz.mergeSort hle)) := by
  unfold pickCh
  rw [ring_rsM h]
  obtain ⟨r, e⟩ := first_choice (hs := hz.mergeSort hle) fun x hx => by have := (h.ok x (List.mem_mergeSort.mp hx)).2.1; omega
  rw [e, List.find?_cons, lets_rsM h fun x hx => List.mem_mergeSort.mpr hx]
/-! the pairs, sorted -/
theorem sort_pairs (hz : List Hd) : (hz.map fun h => chPair (h, 0)).mergeSort dle = (ch0 (hz.mergeSort hle)).map chPair := by
  have e : ∀ a b : Hd, hle a b = dle (chPair (a, 0)) (chPair (b, 0)) := fun a b => by
    show (!PySem.W.dataLt (hdD b) (hdD a)) = !PySem.W.dataLt (.tuple [hdD b, .int 0]) (.tuple [hdD a, .int 0])
    rw [PySem.W.dataLt_pair (by simp [hdD, PySem.W.alike, PySem.W.alikeAll]) (by simp [PySem.W.alike])]
    by_cases g : b = a
    · subst g
      rw [if_pos ((eqv_nb (nb_hd b) (nb_hd b)).mpr rfl), if_pos (by simp [PyData.eqv])]
      exact hle_total.refl b
    · rw [if_neg (fun z => g (hdD_inj ((eqv_nb (nb_hd b) (nb_hd a)).mp z)))]
  rw [← PySem.W.sort_maps (r := hle) (s := dle) (fun h => chPair (h, 0)) (l := hz) fun a _ b _ => e a b]
  unfold ch0
  rw [List.map_map]
  rfl
theorem sortOk_pairs {hz : List Hd} (hl : hz.length ≤ 10000) : SortOk (hz.map fun h => chPair (h, 0)) where
  al := PySem.W.AllAlike.of fun a b => by simp [chPair, hdD, PySem.W.alike, PySem.W.alikeAll]
  so := PySem.W.Sortable.tuples fun a => ⟨_, _, rfl⟩
  ln := by rw [List.length_map]; exact hl
  dp := fun d hd => by
    obtain ⟨h, _, rfl⟩ := List.mem_map.mp hd
    simp [chPair, hdD, PyData.depth, PyData.depthAll]
end Q

set_option Elab.async false
set_option linter.all false
set_option maxRecDepth 100000
set_option maxHeartbeats 4000000
namespace DL
open PySem PySem.Spec PyProof.Rows L2
section
variable {X : Cx}
/-- list + list, over what reads as a list -/
def rCatQ (K : PySem.W.Frag) : R2 := fun x y H Q => ∃ l b xs zs, x = .ref l ∧ y = .ref b ∧ SqL K H l xs ∧ SqL K H b zs ∧ xs.length + zs.length ≤ sizeLine ∧ ∀ p, H p = none → Q (.ref p) (upd H p (.lst (xs ++ zs)))
theorem op_catQ : OpR X (binaryOp .Add) (rCatQ X.K) := by
  intro pins s σ H x y v u Q I rx ry h
  obtain ⟨l, b, xs, zs, rfl, rfl, hH, hB, hz, q⟩ := h
  cases rx
  cases ry
  obtain ⟨its, r, ht, _⟩ := I.list hH
  obtain ⟨its2, r2, ht2, _⟩ := I.list hB
  have hl := r.length
  have hl2 := r2.length
  obtain ⟨⟨cls, dd, data, sl⟩, n, ho, hc, _, hd⟩ := id ht
  obtain ⟨⟨cls2, dd2, data2, sl2⟩, n2, ho2, hc2, _, hd2⟩ := id ht2
  simp only at hc hd hc2 hd2
  subst hc hd hc2 hd2
  have e : its.toArray ++ its2.toArray = (its ++ its2).toArray := by simp
  refine concat_meets ⟨_, ho, rfl⟩ ⟨_, ho2, rfl⟩ noFill_list_add seq_list_add PySem.F.slot_list_add PySem.F.entry_list_add (PySem.F.args_list_add_2 _ _) (list_addW l b its.toArray its2.toArray n n2 dd dd2 sl sl2 (by rw [List.size_toArray, List.size_toArray]; omega)) ⟨ho, ho2, ?_⟩
  rw [e]
  exact ⟨.ref _, _, I.lnew (t' := s.toks) (r.append r2) (by rw [List.length_append]; omega), rfl, q _ I.fresh⟩
/-- what is given: a list of whole numbers -/
def ScT (K : PySem.W.Frag) (ns : List Int) : Ty := ⟨fun H v => ∃ a, v = .ref a ∧ SqL K H a (ns.map V.int), fun e ⟨a, h, g⟩ => ⟨a, h, e.seq g⟩⟩
theorem ints_dq {H : Hp} : ∀ ns : List Int, DqAll H (ns.map V.int) (ns.map PyData.int)
  | [] => .nil
  | n :: ns => .cons (.int n) (ints_dq ns)
theorem r2_catQ {K : PySem.W.Frag} {ns ms : List Int} (h : ns.length + ms.length ≤ 100000) : R2V (rCatQ K) (ScT K ns) (D (.list (ms.map PyData.int))) (D (.list ((ns ++ ms).map PyData.int))) := fun Hs H x y Q s hx hy q => by
  obtain ⟨a, rfl, ha⟩ := hx
  obtain ⟨b, ys, rfl, h3, h4⟩ := dq_list hy
  have hl := h4.length
  rw [List.length_map] at hl
  refine ⟨a, b, _, ys, rfl, rfl, s.seq ha, .inl (.inl (s _ _ h3)), by rw [List.length_map, hl]; exact Nat.le_trans h (by decide), fun p hp => q _ _ _ (Ext.new s hp) ?_⟩
  rw [List.map_append]
  exact .lst upd_same (dqs_mono ((Same.refl _).newU (s.free hp)) _ _ ((ints_dq ns).append h4))
theorem cut_ints (ns : List Int) (lo hi : Option Int) : ∃ ms : List Int, cutV (ns.map V.int) lo hi = ms.map V.int ∧ (∀ m ∈ ms, m ∈ ns) := by
  unfold cutV
  rw [← List.map_drop, ← List.map_take]
  exact ⟨_, rfl, fun m hm => List.mem_of_mem_drop (List.mem_of_mem_take hm)⟩
theorem rs_Q {K : PySem.W.Frag} {ns : List Int} : RSlV (rSlL K) (ScT K ns) (some 1) (some 9) (D (.list (((ns.drop 1).take 8).map PyData.int))) := fun Hs H x Q s hx q => by
  obtain ⟨a, rfl, ha⟩ := hx
  have e : cutV (ns.map V.int) (some 1) (some 9) = ((ns.drop 1).take 8).map V.int := by
    unfold cutV
    rw [show HT.sIx (ns.map V.int).length 0 (some 1) = min 1 (ns.map V.int).length from HT.sIx_nat _ _ 1, show HT.sIx (ns.map V.int).length (ns.map V.int).length (some 9) = min 9 (ns.map V.int).length from HT.sIx_nat _ _ 9, List.length_map, ← List.map_drop, ← List.map_take]
    by_cases h : ns.length ≤ 9
    · rw [Nat.min_eq_right h]
      by_cases h1 : 1 ≤ ns.length
      · rw [Nat.min_eq_left h1]
        rw [List.take_of_length_le (by rw [List.length_drop]; exact Nat.le_refl _), List.take_of_length_le (by rw [List.length_drop]; omega)]
      · have : ns = [] := List.length_eq_zero_iff.mp (by omega)
        subst this
        rfl
    · rw [Nat.min_eq_left (by omega), Nat.min_eq_left (by omega)]
  exact ⟨a, _, rfl, s.seq ha, fun p hp => q _ _ _ (Ext.new s hp) (by rw [e]; exact .lst upd_same (ints_dq _))⟩
/-- f(own): for the call it stands as data, behind it is own again -/
theorem ee_callO {ρ : List Sl} {ds : List PyData} {x nm : Str} {S : List Ty → Ty → Prop} {k : Nat} {d : PyData} {p npos pos : Pos} (i : Nat) (G : Fn X.prog X.w X.K X.mg X.base k x S) (hr : Room k X.A) (hO : ρ[i]? = some (.ow (OwnL ds))) (hS : S [D (.list ds)] (D d)) (hd0 : ∀ (H : Hp) (v : V), Dq H v d → ∀ H' : Hp, Dq H' v d) (hg : Gl X x := by rfl)
    (hdb : (x == ("__debug__" : Str)) = false := by decide) (hN : X.N[i]? = some nm := by rfl) (hv : Vis X.env.scope nm := by first | exact Or.inl rfl | exact Or.inr (Or.inl rfl) | exact Or.inr (Or.inr rfl))
    (hd : (nm == ("__debug__" : Str)) = false := by decide) (hcd : (nm == ("__classdict__" : Str)) = false := by decide)
    (he : starEach [.Name nm npos] X.env = (false, eval (.Name nm npos) X.env) :: starEach [] X.env := by rfl) (hpl : (backTo pos (starEach [] X.env)).any (·.1) = false := by rfl) : EE X ρ (.Call (.Name x p) [.Name nm npos] [] pos) (D d) := fun F Hs H σ Q E q => by
  obtain ⟨f, fd, ps, G, hm, hk, hb⟩ := G.ex
  obtain ⟨a, u, h1, h2, h3, h4, xs, rfl, h5⟩ := E.o i _ hO
  refine RE.of (pe_call G hr hg hm hk hb .nil pass0 (pa_cons (pe_var hN hv hd hcd) pa_nil) hdb he hpl) ?_
  refine ⟨.ref a, h1, ?_⟩
  show spS S [.ref a] H Q E0
  have s1 : Same (upd Hs a (.lst xs)) H := fun b o e => by
    by_cases z : b = a
    · subst z
      rw [upd_same] at e
      rw [← e]
      exact h4
    · rw [upd_ne z] at e
      exact E.s b o e
  refine ⟨[D (.list ds)], D d, upd Hs a (.lst xs), hS, s1, .cons (ownL_fix Hs a (.lst xs) h2 ⟨xs, rfl, h5⟩) .nil, fun v Hs2 H2 X2 hv => ?_⟩
  refine q v (fun b => if b = a then none else Hs2 b) H2 ⟨fun b o e => ?_, fun b o e => ?_, fun b o e g => ?_⟩ (hd0 _ _ hv _)
  · have n : b ≠ a := fun z => by rw [z, h2] at e; cases e
    show (if b = a then none else Hs2 b) = some o
    rw [if_neg n]
    exact X2.a b o (by rw [upd_ne n]; exact e)
  · by_cases n : b = a
    · have e' : (if b = a then none else Hs2 b) = some o := e
      rw [if_pos n] at e'
      cases e'
    · have e' : (if b = a then none else Hs2 b) = some o := e
      rw [if_neg n] at e'
      exact X2.b b o e'
  · by_cases n : b = a
    · subst n
      rw [h4] at e
      cases e
      exact ⟨X2.b _ _ (X2.a _ _ upd_same), .inl (if_pos rfl)⟩
    · obtain ⟨k1, k2⟩ := X2.c b o e (by rw [upd_ne n]; exact g)
      refine ⟨k1, k2.imp (fun z => ?_) id⟩
      show (if b = a then none else Hs2 b) = none
      rw [if_neg n]
      exact z
end
end DL

set_option Elab.async false
set_option linter.all false
set_option maxRecDepth 100000
set_option maxHeartbeats 4000000
namespace K53
open PySem PySem.Spec PyProof.Rows L2 DL Q
section
variable {P : Program} {w : World} {K : PySem.W.Frag} {mg : Str → Option Value} {base : Heap} {f : Addr} {fd : FuncData} {aR aC aT aP aE aN : Addr}
/-! _law_down -/
def S_down : List Ty → Ty → Prop := fun Ts T => ∃ (x y : Str) (c : Int), 1 ≤ c ∧ c ≤ 9 ∧ Ts = [D (.str x), D (.int c), D (.str y)] ∧ T = D (ruleD (dnRule y (x, c)))
theorem sc_down : FnScope ["_law_name", "_law_count", "_law_inner", "_law_rest", "_law_k"] ["_law_name", "_law_count", "_law_inner"] (defScope sLawDown) := ⟨rfl, rfl, rfl, by decide +kernel, rfl, by decide +kernel, by decide +kernel⟩
theorem ok_down (B : Bi mg) (F : FnP K "_law_down" "_law_down" sLawDown f fd) : FnOk P w K mg base CX0 1 f fd ["_law_name", "_law_count", "_law_inner"] (spS S_down) := by
  refine fn_ok F sc_down (by rintro _ _ ⟨_, _, _, _, _, rfl, rfl⟩; rfl) ?_
  rintro cdv A outer s H E hr _ _ ⟨x, y, c, c1, c9, rfl, rfl⟩
  have hn := sc_down.nd
  have hrl := rest_len c1
  have hl : (dnRest c).length ≤ 8 := by omega
  refine bb_setLcD 3 [("_law_k", 4)] (dnRest c) rfl hn rfl rfl (it_range2 (lo := 1) (hi := c) B.range ee_int (ee_v 1 rfl) ⟨by decide, by decide, by omega, by omega⟩) (blkOk_by (N := ["_law_name", "_law_count", "_law_inner", "_law_rest", "_law_k"]) (sc := defScope sLawDown) (by decide +kernel)) ?_ ?_ (by show 3 < 5; decide) ?_ ?_
  · unfold dnRest
    rw [List.length_map, List.length_range, rangeT_length]
  · rw [rangeT_length]
    omega
  · intro k T d hT hd
    obtain ⟨hk, rfl⟩ := rangeT_at hT
    unfold dnRest at hd
    rw [List.getElem?_map, List.getElem?_range hk] at hd
    rw [← Option.some.inj hd]
    exact turn_keep (fun s H C cl fp => gg_name 4 hn rfl (.inl rfl)) fun s H C cl fp => e_add ee_int (ee_v 4 rfl)
  · refine bb_ret (EE.d (ee_tup (ead_cons (e_tuple B.tuple (e_catL (ee_lst (ead_cons (ee_v 0 rfl) (ead_cons (ee_tup (ead_cons (ee_v 2 rfl) (ead_cons ee_int ead_nil))) ead_nil))) (ee_v 3 rfl) ?_)) (ead_cons (e_tuple B.tuple (e_catL (ee_lst (ead_cons (ee_v 0 rfl) (ead_cons ee_int ead_nil))) (ee_v 3 rfl) ?_)) ead_nil))) rfl)
    · show 2 + (dnRest c).length ≤ 100000
      omega
    · show 2 + (dnRest c).length ≤ 100000
      omega
/-! _law_many -/
structure CsOk (cs : List Int) : Prop where
  ok : ∀ c ∈ cs, 2 ≤ c ∧ c ≤ 9
  l2 : 2 ≤ cs.length
  l5 : cs.length ≤ 5
def hzOf (ns : List Str) (cs : List Int) : List Hd := ns.zip cs
theorem zip_nodup : ∀ {ns : List Str} {cs : List Int}, ns.Nodup → (ns.zip cs).Nodup
  | [], _, _ => by simp
  | _ :: _, [], _ => by simp
  | n :: ns, c :: cs, h => by
    rw [List.nodup_cons] at h
    rw [List.zip_cons_cons, List.nodup_cons]
    exact ⟨fun z => h.1 (List.of_mem_zip z).1, zip_nodup h.2⟩
theorem many_ok {ns : List Str} {cs : List Int} {y : Str} (n : NamesOk ns) (c : CsOk cs) (hy : NameOk y) : ManyOk y (hzOf ns cs) := by
  refine ⟨hy, zip_nodup n.nd, fun h hh => ?_, ?_⟩
  · obtain ⟨h1, h2⟩ := List.of_mem_zip (show (h.1, h.2) ∈ ns.zip cs from hh)
    exact ⟨n.ok _ h1, c.ok _ h2⟩
  · unfold hzOf
    rw [List.length_zip]
    have := n.ln
    omega
theorem zip_at {ns : List Str} {cs : List Int} (h5 : ns.length = 5) (hc : cs.length ≤ 5) {k : Nat} {c : Int} (e : cs[k]? = some c) : ∃ x, ns[k]? = some x ∧ (hzOf ns cs)[k]? = some (x, c) := by
  have hk : k < cs.length := (List.getElem?_eq_some_iff.mp e).1
  have hk2 : k < ns.length := by omega
  refine ⟨ns[k], List.getElem?_eq_getElem hk2, ?_⟩
  unfold hzOf
  rw [List.getElem?_zip_eq_some]
  exact ⟨List.getElem?_eq_getElem hk2, e⟩
theorem len_hz {ns : List Str} {cs : List Int} (h5 : ns.length = 5) (hc : cs.length ≤ 5) : (hzOf ns cs).length = cs.length := by
  unfold hzOf
  rw [List.length_zip]
  omega
theorem due_hz : ∀ {ns : List Str} {cs : List Int}, cs.length ≤ ns.length → (∀ c ∈ cs, 2 ≤ c ∧ c ≤ 9) → ((cprod (hzOf ns cs) : Nat) : Int) = cs.foldl (fun a c => a * c) 1
  | ns, [], _, _ => by
    have : hzOf ns [] = [] := by unfold hzOf; simp
    rw [this]
    rfl
  | [], c :: cs, h, _ => by simp at h
  | n :: ns, c :: cs, h, g => by
    have ih := due_hz (ns := ns) (cs := cs) (by simpa using h) fun x hx => g x (List.mem_cons_of_mem _ hx)
    have e : hzOf (n :: ns) (c :: cs) = (n, c) :: hzOf ns cs := rfl
    rw [e, cprod_cons, Int.natCast_mul, ih, List.foldl_cons]
    have hc := (g c List.mem_cons_self).1
    have e1 : ((c.toNat : Nat) : Int) = c := Int.toNat_of_nonneg (by omega)
    show ((c.toNat : Nat) : Int) * _ = _
    rw [e1]
    have : ∀ (xs : List Int) (a : Int), xs.foldl (fun a c => a * c) a = a * xs.foldl (fun a c => a * c) 1 := by
      intro xs
      induction xs with
      | nil => intro a; simp
      | cons x xs ih => intro a; rw [List.foldl_cons, List.foldl_cons, ih (a * x), ih (1 * x), Int.one_mul, Int.mul_assoc]
    rw [this cs (1 * c), Int.one_mul]
def S_many : List Ty → Ty → Prop := fun Ts T => ∃ (n : Int) (ns : List Str), NamesOk ns ∧ Ts = [D (.int n), D (namesD ns)] ∧ T = D (.bool true)
abbrev NM : List Str := ["_law_number", "_law_names_here", "_law_many_here", "_law_counts", "_law_k", "_law_count", "_law_some", "_law_due", "_law_found", "_law_kinds"]
theorem sc_many : FnScope NM ["_law_number", "_law_names_here"] (defScope sLawMany) := ⟨rfl, rfl, rfl, by decide +kernel, rfl, by decide +kernel, by decide +kernel⟩
theorem cs_mul {a c : Int} (h0 : 0 ≤ a) (h1 : a ≤ 1000000) (c0 : 0 ≤ c) (c9 : c ≤ 9) : CMulW a c := by
  have := lgI (k := 20) (x := a) (by decide) h0 (by omega)
  have := lgI (k := 20) (x := c) (by decide) c0 (by omega)
  show _ + _ < 1000000
  omega
theorem fold_bd : ∀ (cs : List Int) (a : Int) (b : Int), 0 ≤ a → a ≤ b → (∀ c ∈ cs, 2 ≤ c ∧ c ≤ 9) → 0 ≤ cs.foldl (fun a c => a * c) a ∧ cs.foldl (fun a c => a * c) a ≤ b * 9 ^ cs.length
  | [], a, b, h0, h1, _ => by simp; exact ⟨h0, h1⟩
  | c :: cs, a, b, h0, h1, g => by
    have hc := g c List.mem_cons_self
    have e1 : 0 ≤ a * c := Int.mul_nonneg h0 (by omega)
    have e2 : a * c ≤ b * 9 := Int.mul_le_mul h1 hc.2 (by omega) (by omega)
    have := fold_bd cs (a * c) (b * 9) e1 e2 fun x hx => g x (List.mem_cons_of_mem _ hx)
    rw [List.foldl_cons, List.length_cons, Int.pow_succ, ← Int.mul_assoc]
    rw [Int.mul_assoc b 9] at this
    rw [Int.mul_assoc, Int.mul_comm (9 ^ cs.length) 9]
    exact this
theorem ok_many (B : Bi mg) (c : IsC K aC) (gC : mg "Calls" = some (.ref aC)) (kC : PySem.W.kitOne K (.ref aC) (.ref aC) = some true) (MR : MkI P w K mg base 13 "Rules" aR (spR aR)) (MT : Me P w K mg base 1 aC "told" (S_ctold aC))
    (G1 : Fn P w K mg base 1 "_law_down" S_down) (G2 : Fn P w K mg base 15 "_law_answer" (S_answer aR aC)) (F : FnP K "_law_many" "_law_many" sLawMany f fd) : FnOk P w K mg base CX0 16 f fd ["_law_number", "_law_names_here"] (spS S_many) := by
  refine fn_ok F sc_many (by rintro _ _ ⟨_, _, _, rfl, rfl⟩; rfl) ?_
  rintro cdv A outer s H E hr _ _ ⟨n, ns, nok, rfl, rfl⟩
  have h1 : Room 1 _ := hr.mono (by decide)
  have h14 : Room 14 _ := hr.mono (by decide)
  have hn := sc_many.nd
  have hn5 := nok.ln
  have nm5 : Nm5 ns := ⟨nok.ln, nok.ok⟩
  obtain ⟨y, hy, _, ey⟩ := nm_at nm5 (i := 0) (by decide) (by decide)
  refine bb_asg (e_divmod B.divmod (ee_v 0 rfl) ee_int (by decide) (by decide)) (gg_pair rfl (gg_name 0 hn rfl (.inl rfl)) (gg_name 2 hn rfl (.inl rfl))) ?_
  have m0 := Int.emod_nonneg n (show (4 : Int) ≠ 0 by decide)
  have m1 := Int.emod_lt_of_pos n (show (0 : Int) < 4 by decide)
  generalize n % 4 = mh at m0 m1 ⊢
  generalize n / 4 = n1
  refine bb_setO 3 hn rfl (.inl rfl) (eo_lst ead_nil) ?_
  refine bb_for (fun i ρ => ∃ (m : Int) (cs : List Int) (x z : Sl), (∀ c ∈ cs, 2 ≤ c ∧ c ≤ 9) ∧ cs.length = i ∧ ρ = [.va (D (.int m)), .va (D (namesD ns)), .va (D (.int mh)), .ow (OwnL (cs.map PyData.int)), x, z, .un, .un, .un, .un]) PassesOwn.never rfl
    (it_range1 (n := 2 + mh) B.range (e_add ee_int (ee_v 2 rfl)) (by omega) (by omega)) ⟨n1, [], _, _, (fun c hc => nomatch hc), rfl, rfl⟩ ?_ ?_
  · rintro i T ρ' hT ⟨m, cs, x, z, hcs, hl, rfl⟩
    obtain ⟨hi, rfl⟩ := rangeT_at hT
    refine ⟨_, _, gg_name 4 hn rfl (.inl rfl), ?_⟩
    have q0 := Int.emod_nonneg m (show (8 : Int) ≠ 0 by decide)
    have q1 := Int.emod_lt_of_pos m (show (0 : Int) < 8 by decide)
    refine bb_asg (e_divmod B.divmod (ee_v 0 rfl) ee_int (by decide) (by decide)) (gg_pair rfl (gg_name 0 hn rfl (.inl rfl)) (gg_name 5 hn rfl (.inl rfl))) ?_
    refine bb_append (d := .int (2 + m % 8)) 3 rfl (by rw [List.length_map]; omega) (e_add ee_int (ee_v 5 rfl)) (bb_nil ⟨m / 8, cs ++ [2 + m % 8], _, .va (D (.int (m % 8))), fun c hc => ?_, by rw [List.length_append, hl]; rfl, by rw [List.map_append]; rfl⟩)
    rcases List.mem_append.mp hc with u | u
    · exact hcs c u
    · rw [List.mem_singleton.mp u]
      omega
  rintro ρ' ⟨m, cs0, x, z, hcs0, hl0, rfl⟩
  rw [rangeT_length] at hl0
  have cok0 : CsOk cs0 := ⟨hcs0, by omega, by omega⟩
  refine bb_fixL 3 rfl ?_
  -- number % 5 == 0
  refine bb_ifset (fun d => ∃ cs, CsOk cs ∧ d = ctsD cs) 3 hn rfl (.inl rfl) (t_eqI (e_mod (ee_v 0 rfl) ee_int (by decide)) ee_int) (fun hb => ?_) (fun hb => ⟨_, ⟨cs0, cok0, rfl⟩, rfl⟩) (fun d1 hd1 => ?_)
  · have q0 := Int.emod_nonneg (m / 5) (show (4 : Int) ≠ 0 by decide)
    have q1 := Int.emod_lt_of_pos (m / 5) (show (0 : Int) < 4 by decide)
    have hlt : (m / 5 % 4).toNat < [ctsD [8, 5, 5, 5, 3], ctsD [9, 8, 7, 6], ctsD [3, 8, 5, 5, 5], ctsD [2, 2]].length := by
      show _ < 4
      omega
    have hall : ∀ d ∈ [ctsD [8, 5, 5, 5, 3], ctsD [9, 8, 7, 6], ctsD [3, 8, 5, 5, 5], ctsD [2, 2]], ∃ cs, CsOk cs ∧ d = ctsD cs := fun d hd => by
      simp only [List.mem_cons, List.not_mem_nil, or_false] at hd
      rcases hd with rfl | rfl | rfl | rfl
      · exact ⟨_, ⟨by decide, by decide, by decide⟩, rfl⟩
      · exact ⟨_, ⟨by decide, by decide, by decide⟩, rfl⟩
      · exact ⟨_, ⟨by decide, by decide, by decide⟩, rfl⟩
      · exact ⟨_, ⟨by decide, by decide, by decide⟩, rfl⟩
    refine ⟨_, hall _ (List.getElem_mem hlt), e_ixL (ds := [ctsD [8, 5, 5, 5, 3], ctsD [9, 8, 7, 6], ctsD [3, 8, 5, 5, 5], ctsD [2, 2]]) (ee_lst (ead_cons (ee_lst (ead_cons ee_int (ead_cons ee_int (ead_cons ee_int (ead_cons ee_int (ead_cons ee_int ead_nil)))))) (ead_cons (ee_lst (ead_cons ee_int (ead_cons ee_int (ead_cons ee_int (ead_cons ee_int ead_nil)))))
      (ead_cons (ee_lst (ead_cons ee_int (ead_cons ee_int (ead_cons ee_int (ead_cons ee_int (ead_cons ee_int ead_nil)))))) (ead_cons (ee_lst (ead_cons ee_int (ead_cons ee_int ead_nil))) ead_nil))))) (e_mod (e_div (ee_v 0 rfl) ee_int (small_lg (by decide) (by decide))) ee_int (by decide)) (at_ (m / 5 % 4).toNat (by omega) (List.getElem?_eq_getElem hlt))⟩
  obtain ⟨cs1, cok1, rfl⟩ := hd1
  have hl1 := cok1.l2
  have hl1' := cok1.l5
  -- number % 5 == 1
  refine bb_ifset (fun d => ∃ cs, CsOk cs ∧ d = ctsD cs) 3 hn rfl (.inl rfl) (t_eqI (e_mod (ee_v 0 rfl) ee_int (by decide)) ee_int) (fun hb => ?_) (fun hb => ⟨_, ⟨cs1, cok1, rfl⟩, rfl⟩) (fun d2 hd2 => ?_)
  · have hcut : cutP (cs1.map PyData.int) none (some 2) = (cs1.take 2).map PyData.int := by
      unfold cutP
      rw [HT.sIx_none, show HT.sIx (cs1.map PyData.int).length (cs1.map PyData.int).length (some 2) = 2 from (HT.sIx_nat _ _ 2).trans (by rw [List.length_map]; omega)]
      show ((cs1.map PyData.int).drop 0).take (2 - 0) = _
      rw [List.drop_zero, List.map_take]
    have hrep : (List.replicate ((((cs1.map PyData.int).length : Nat) : Int) - 2).toNat [PyData.int 2]).flatten = (List.replicate (cs1.length - 2) (2 : Int)).map PyData.int := by
      rw [List.length_map]
      have e : (((cs1.length : Nat) : Int) - 2).toNat = cs1.length - 2 := by omega
      rw [e]
      generalize cs1.length - 2 = j
      induction j with
      | zero => rfl
      | succ j ih => rw [List.replicate_succ, List.flatten_cons, ih, List.replicate_succ]; rfl
    refine ⟨ctsD (cs1.take 2 ++ List.replicate (cs1.length - 2) 2), ⟨_, ⟨fun c hc => ?_, ?_, ?_⟩, rfl⟩, EE.d (e_catL (ee_sl sl_list (ee_v 3 rfl) ep_none (ep_some (i := 2) ee_int) rs_L) (ee_op op_rep (ee_lst (ead_cons ee_int ead_nil)) (e_sub (e_lenL B.len (ee_v 3 rfl)) ee_int) (r2_repL (by rw [List.length_map]; omega) (by rw [List.length_map]; omega) ?_)) ?_) ?_⟩
    · rcases List.mem_append.mp hc with u | u
      · exact cok1.ok c (List.mem_of_mem_take u)
      · rw [List.eq_of_mem_replicate u]
        decide
    · rw [List.length_append, List.length_take, List.length_replicate]
      omega
    · rw [List.length_append, List.length_take, List.length_replicate]
      omega
    · rw [List.length_map]
      show 1 * _ ≤ 100000
      omega
    · rw [hcut, hrep, List.length_map, List.length_map, List.length_take, List.length_replicate]
      omega
    · rw [hcut, hrep, ← List.map_append]
      rfl
  obtain ⟨cs, cok, rfl⟩ := hd2
  have hl2 := cok.l2
  have hl5 := cok.l5
  have hmo := many_ok nok cok hy
  have hlz := len_hz hn5 hl5
  -- the rules
  refine bb_setLcD 6 [("_law_k", 4), ("_law_count", 5)] ((rsM y (hzOf ns cs)).map ruleD) rfl hn rfl rfl (it_enum (ds := cs.map PyData.int) B.enumerate (ee_v 3 rfl)) (blkOk_by (N := NM) (sc := defScope sLawMany) (by decide +kernel)) ?_ ?_ (by show 6 < 10; decide) ?_ ?_
  · unfold rsM
    rw [List.length_map, List.length_map, List.length_map, enumD_length, List.length_map, hlz]
  · rw [List.length_map, enumD_length, List.length_map]
    omega
  · intro i T d hT hd
    unfold rsM at hd
    rw [List.getElem?_map, enumD_at, List.getElem?_map] at hT
    rw [List.getElem?_map, List.getElem?_map] at hd
    cases e : cs[i]? with
    | none => rw [e] at hT; cases hT
    | some ci =>
      obtain ⟨xi, ex, ez⟩ := zip_at hn5 hl5 e
      rw [e] at hT
      rw [ez] at hd
      rw [← Option.some.inj hT, ← Option.some.inj hd]
      have hc := cok.ok ci (List.mem_of_getElem? e)
      have ei : atI (ns.map PyData.str) ((0 + i : Nat) : Int) = some (.str xi) := at_ i (by omega) (by rw [List.getElem?_map, ex]; rfl)
      refine turn_keep (fun s H C cl fp => gg_pair rfl (gg_name 4 hn rfl (.inl rfl)) (gg_name 5 hn rfl (.inl rfl))) fun s H C cl fp => ?_
      exact ee_call G1 h1 (ea_cons (e_ixL (ee_v 1 rfl) (ee_v 4 rfl) ei) (ea_cons (ee_v 5 rfl) (ea_cons (e_ixL (ee_v 1 rfl) ee_int ey) ea_nil))) ⟨xi, y, ci, by omega, hc.2, rfl, rfl⟩
  -- the product
  refine bb_set 7 hn rfl (.inl rfl) ee_int ?_
  refine bb_for (fun i ρ => ∃ a b : Sl, ρ = [.va (D (.int m)), .va (D (namesD ns)), .va (D (.int mh)), .va (D (ctsD cs)), a, b, .va (D (.list ((rsM y (hzOf ns cs)).map ruleD))), .va (D (.int ((cs.take i).foldl (fun a c => a * c) 1))), .un, .un]) PassesOwn.never rfl (it_listD (ee_v 3 rfl)) ⟨_, _, rfl⟩ ?_ ?_
  · rintro i T ρ' hT ⟨a, b, rfl⟩
    rw [List.getElem?_map, List.getElem?_map] at hT
    cases e : cs[i]? with
    | none => rw [e] at hT; cases hT
    | some ci =>
      rw [e] at hT
      rw [← Option.some.inj hT]
      have hc := cok.ok ci (List.mem_of_getElem? e)
      have hb := fold_bd (cs.take i) 1 1 (by decide) (by decide) fun c hc => cok.ok c (List.mem_of_mem_take hc)
      have hlt : (cs.take i).length ≤ 5 := by rw [List.length_take]; omega
      have hpw : (9 : Int) ^ (cs.take i).length ≤ 1000000 := by
        have : ∀ j : Nat, j ≤ 5 → (9 : Int) ^ j ≤ 1000000 := by decide
        exact this _ hlt
      refine ⟨_, _, gg_name 5 hn rfl (.inl rfl), ?_⟩
      refine bb_set 7 hn rfl (.inl rfl) (e_mul (ee_v 7 rfl) (ee_v 5 rfl) (cs_mul hb.1 (by omega) (by omega) hc.2)) (bb_nil ⟨a, .va (D (.int ci)), ?_⟩)
      rw [List.take_succ, e, List.foldl_append]
      rfl
  rintro ρ' ⟨a, b, rfl⟩
  rw [List.length_map, List.length_map, List.take_length]
  have hdue := due_hz (ns := ns) (cs := cs) (by omega) cok.ok
  rw [← hdue]
  have hring := ring_rsM hmo
  have hcpr : cprod (ringH (rsM y (hzOf ns cs))) = cprod (hzOf ns cs) := by rw [hring, cprod_sort]
  have hrok := rsM_ok hmo
  by_cases hbig : 3000 < cprod (hzOf ns cs)
  · have eA : AnsT aC (rsM y (hzOf ns cs)) = LstT [D .none, D (.list [.bool true, .bool false])] := by unfold AnsT; rw [if_pos (by rw [hcpr]; exact hbig)]
    refine bb_asg (T := LstT [D .none, D (.list [.bool true, .bool false])]) (EE.ty (ee_call G2 hr (ea_cons (ee_mkR MR h14 (ee_v 6 rfl) hrok) ea_nil) ⟨_, hrok, rfl, rfl⟩) eA) (gg_lst2 rfl (gg_name 8 hn rfl (.inl rfl)) (gg_name 9 hn rfl (.inl rfl))) ?_
    refine bb_if0 (b := true) (ET.to (t_gtI (ee_v 7 rfl) ee_int) (decide_eq_true (by omega))) (fun _ => ?_) (fun z => nomatch z)
    exact bb_ret (EE.d (e_eqD hr (ee_v 9 rfl) (ee_lst (ead_cons ee_bl (ead_cons ee_bl ead_nil))) (by decide) (by decide)) rfl)
  · have eA : AnsT aC (rsM y (hzOf ns cs)) = LstT [CallsT aC (ch0 ((hzOf ns cs).mergeSort hle)), D (.list [])] := by
      unfold AnsT
      rw [if_neg (by rw [hcpr]; exact hbig), pick_rsM hmo]
      rfl
    refine bb_asg (T := LstT [CallsT aC (ch0 ((hzOf ns cs).mergeSort hle)), D (.list [])]) (EE.ty (ee_call G2 hr (ea_cons (ee_mkR MR h14 (ee_v 6 rfl) hrok) ea_nil) ⟨_, hrok, rfl, rfl⟩) eA) (gg_lst2 rfl (gg_name 8 hn rfl (.inl rfl)) (gg_name 9 hn rfl (.inl rfl))) ?_
    refine bb_skip (ET.to (t_gtI (ee_v 7 rfl) ee_int) (decide_eq_false (by omega))) ?_
    refine bb_skip (ET.to (EW.t (ew_or (t_neD hr (ee_v 9 rfl) (ee_lst ead_nil) (by decide) (by decide)) fun _ => ew_or1 (et_not (et_val (e_isiC c B.isinstance (ee_v (T := CallsT aC (ch0 ((hzOf ns cs).mergeSort hle))) 8 rfl) (ee_globC gC) kC))))) rfl) ?_
    have hnm : ∀ p ∈ ch0 ((hzOf ns cs).mergeSort hle), NameOk p.1.1 := fun p hp => by
      obtain ⟨h, hh, rfl⟩ := List.mem_map.mp hp
      exact (hmo.ok h (List.mem_mergeSort.mp hh)).1
    have eqs : PyData.list (((hzOf ns cs).map fun h => chPair (h, 0)).mergeSort dle) = chL (ch0 ((hzOf ns cs).mergeSort hle)) := by rw [sort_pairs]; rfl
    refine bb_ret (EE.d (e_eqD h1 (ee_meth0 MT h1 (ee_v (T := CallsT aC (ch0 ((hzOf ns cs).mergeSort hle))) 8 rfl) (ins_calls rfl) ⟨_, rfl, rfl⟩) (EE.d (EO.d (o_sortedD h1 B.sorted (EO.d (o_lc (own := [("_law_k", 4), ("_law_count", 5)]) ((hzOf ns cs).map fun h => chPair (h, 0)) rfl hn (it_enum (ds := cs.map PyData.int) B.enumerate (ee_v 3 rfl)) (blkOk_by (N := NM) (sc := defScope sLawMany) (by decide +kernel)) ?_ ?_ ?_)) (sortOk_pairs (by omega)) ?_)) eqs) (chL_shaped hnm) (chL_shaped hnm)) ?_)
    · rw [List.length_map, List.length_map, enumD_length, List.length_map, hlz]
    · rw [List.length_map, enumD_length, List.length_map]
      omega
    · intro i T d hT hd
      rw [List.getElem?_map, enumD_at, List.getElem?_map] at hT
      rw [List.getElem?_map] at hd
      cases e : cs[i]? with
      | none => rw [e] at hT; cases hT
      | some ci =>
        obtain ⟨xi, ex, ez⟩ := zip_at hn5 hl5 e
        rw [e] at hT
        rw [ez] at hd
        rw [← Option.some.inj hT, ← Option.some.inj hd]
        have ei : atI (ns.map PyData.str) ((0 + i : Nat) : Int) = some (.str xi) := at_ i (by omega) (by rw [List.getElem?_map, ex]; rfl)
        refine turn_keep (fun s H C cl fp => gg_pair rfl (gg_name 4 hn rfl (.inl rfl)) (gg_name 5 hn rfl (.inl rfl))) fun s H C cl fp => ?_
        exact ee_tup (ead_cons (ee_tup (ead_cons (e_ixL (ee_v 1 rfl) (ee_v 4 rfl) ei) (ead_cons (ee_v 5 rfl) ead_nil))) (ead_cons ee_int ead_nil))
    · exact noLists_mem.mpr fun d hd => by
        obtain ⟨h, _, rfl⟩ := List.mem_map.mp hd
        simp [chPair, hdD, noList, noLists]
    · rw [(eqv_nb (chL_nb _) (chL_nb _)).mpr rfl]
end
end K53

set_option Elab.async false
set_option linter.all false
set_option maxRecDepth 100000
set_option maxHeartbeats 4000000
namespace DL
open PySem PySem.Spec PyProof.Rows L2
section
variable {X : Cx} {ρ : List Sl}
/-- own[k] -/
theorem ee_ixO {ds : List PyData} {d : PyData} {nm : Str} {ke : Expr} {k : Int} {npos pos : Pos} (i : Nat) (hO : ρ[i]? = some (.ow (OwnL ds))) (hk : EE X ρ ke (D (.int k))) (h : atI ds k = some d) (hN : X.N[i]? = some nm := by rfl) (hv : Vis X.env.scope nm := by first | exact Or.inl rfl | exact Or.inr (Or.inl rfl) | exact Or.inr (Or.inr rfl))
    (hd : (nm == ("__debug__" : Str)) = false := by decide) (hcd : (nm == ("__classdict__" : Str)) = false := by decide) (hs : PlainIx ke := by exact fun _ _ => rfl) : EE X ρ (.Subscript (.Name nm npos) ke pos) (D d) := fun F Hs H σ Q E q => by
  obtain ⟨a, xs, h1, h2, h3⟩ := E.own hO
  refine RE.of (pe_ix ix_list (pe_var hN hv hd hcd) pe_RE hs) ?_
  refine ⟨.ref a, h1, ?_⟩
  refine hk F Hs H σ _ E fun y Hs1 H1 X1 hy => ?_
  obtain ⟨v, hv1, hv2⟩ := atI_dq h3 h
  have e2 : H1 a = some (.lst xs) := X1.same E.s _ _ h2
  exact ⟨a, xs, k, v, rfl, dq_int hy, SqL.of e2, hv1, q _ _ _ X1 (dq_mono X1.a _ _ hv2)⟩
/-- an if whose paths join -/
theorem bb_join {c : Expr} {b : Bool} {body rest : List Stmt} {E : En} {pos : Pos} (J : List Sl → Prop) (hc : ET X ρ c b) (h : ∀ ρ', J ρ' → BB X ρ' rest E) (h1 : b = true → ∀ E' : En, (∀ ρ', J ρ' → E'.nx ρ') → BB X ρ body E') (h0 : b = false → J ρ) : BB X ρ (.If c body [] pos :: rest) E :=
  bb_if0 hc (fun hb => h1 hb _ fun ρ' hj => h ρ' hj) fun hb => h ρ (h0 hb)
end
end DL
namespace Q
open PySem DL L2 K53
theorem cprod_3 : ∀ hs : List Hd, (∀ h ∈ hs, h.2 ≤ 3) → cprod hs ≤ 3 ^ hs.length
  | [], _ => by decide
  | h :: hs, g => by
    rw [cprod_cons, List.length_cons, Nat.pow_succ, Nat.mul_comm]
    have := g h List.mem_cons_self
    exact Nat.mul_le_mul (cprod_3 hs fun x hx => g x (List.mem_cons_of_mem _ hx)) (by omega)
/-- the rules that the law makes -/
structure SomeOk (ms : List Str) (cs : List Int) (rs : Rl) : Prop where
  ok : ∀ p ∈ rs, RuP ms cs p
  ln : rs.length ≤ 9
theorem SomeOk.rl {ms : List Str} {cs : List Int} {rs : Rl} (h : SomeOk ms cs rs) : RlOk rs := ⟨fun p hp => (h.ok p hp).ok, by have := h.ln; omega⟩
theorem SomeOk.hd {ms : List Str} {cs : List Int} {rs : Rl} (h : SomeOk ms cs rs) : ∀ p ∈ rs, hdOf p.1 ∈ (ms.zip cs : List Hd) := fun p hp => by
  obtain ⟨k, x, c, hk, e1, e2, e⟩ := (h.ok p hp).h3
  rw [e]
  exact List.mem_of_getElem? (i := k) (List.getElem?_zip_eq_some.mpr ⟨e1, e2⟩)
theorem SomeOk.few {ms : List Str} {cs : List Int} {rs : Rl} (h : SomeOk ms cs rs) (c : CtOk cs) : cprod (ringH rs) ≤ 3000 := by
  have hm : ∀ x ∈ ringH rs, x ∈ (ms.zip cs : List Hd) := fun x hx => by
    obtain ⟨g1, _⟩ := List.mem_filter.mp hx
    obtain ⟨p, hp, e⟩ := mem_madeH.mp g1
    rw [← e]
    exact h.hd p hp
  have hl := nodup_le (nodup_ring rs) hm
  have hz : (ms.zip cs : List Hd).length ≤ 3 := by
    rw [List.length_zip, c.ln]
    omega
  have h3 := cprod_3 (ringH rs) fun x hx => by
    have : (x.1, x.2) ∈ ms.zip cs := hm x hx
    exact (c.ok _ (List.of_mem_zip this).2).2
  have h27 : 3 ^ (ringH rs).length ≤ 3 ^ 3 := Nat.pow_le_pow_right (by decide) (by omega)
  have : (3 : Nat) ^ 3 = 27 := by decide
  omega
theorem nm5_set {ns : List Str} {x : Str} (h : Nm5 ns) (hx : NameOk x) (i : Nat) : Nm5 (ns.set i x) := ⟨by rw [List.length_set]; exact h.ln, fun y hy => by
  rcases List.mem_or_eq_of_mem_set hy with z | z
  · exact h.ok y z
  · rw [z]; exact hx⟩
end Q
namespace K53
open PySem PySem.Spec PyProof.Rows L2 DL Q
section
variable {P : Program} {w : World} {K : PySem.W.Frag} {mg : Str → Option Value} {base : Heap} {f : Addr} {fd : FuncData} {aR aC aT aP aE aN : Addr}
def S_law (K : PySem.W.Frag) : List Ty → Ty → Prop := fun Ts T => ∃ ns : List Int, ns.length ≤ 1000 ∧ Ts = [ScT K ns] ∧ T = D (.bool true)
abbrev NLw : List Str := ["_law_script", "_law_lead", "_law_names_here", "_law_counts", "_law_three", "_law_some", "_law_k", "_law_cell"]
theorem sc_law : FnScope NLw ["_law_script"] (defScope sLaw) := ⟨rfl, rfl, rfl, by decide +kernel, rfl, by decide +kernel, by decide +kernel⟩
theorem pw_lg {j : Nat} (h : j ≤ 30) : CDivW i ((10 : Int) ^ ((j : Nat) : Int).toNat) := by
  have e : ((j : Nat) : Int).toNat = j := rfl
  rw [e]
  have h1 : (0 : Int) < 10 ^ j := Int.pow_pos (by decide)
  have h2 : (10 : Int) ^ j ≤ 10 ^ 30 := by
    have : (10 : Nat) ^ j ≤ 10 ^ 30 := Nat.pow_le_pow_right (by decide) h
    have e1 : ((10 : Nat) ^ j : Nat) = (((10 : Nat) ^ j : Nat) : Int) := rfl
    exact_mod_cast this
  refine ⟨h1, ?_⟩
  have := lgI (k := 200) (by decide) (Int.le_of_lt h1) (Int.lt_of_le_of_lt h2 (by decide))
  omega
theorem pw_c (j : Nat) (h : j ≤ 30) : CPow 10 ((j : Nat) : Int) := ⟨by omega, by omega, by decide⟩
theorem ok_law (B : Bi mg) (G1 : Fn P w K mg base 1 "_law_spread" S_spread) (G2 : Fn P w K mg base 1 "_law_names" S_names) (G3 : Fn P w K mg base 3 "_law_rule" S_lrule) (G4 : Fn P w K mg base 15 "_law_right" S_right) (G5 : Fn P w K mg base 16 "_law_many" S_many)
    (F : FnP K "law" "law" sLaw f fd) : FnOk P w K mg base CX0 17 f fd ["_law_script"] (spS (S_law K)) := by
  refine fn_ok F sc_law (by rintro _ _ ⟨_, _, rfl, rfl⟩; rfl) ?_
  rintro cdv A outer s H E hr _ _ ⟨ns, hln, rfl, rfl⟩
  have h1 : Room 1 _ := hr.mono (by decide)
  have h3 : Room 3 _ := hr.mono (by decide)
  have h15 : Room 15 _ := hr.mono (by decide)
  have hn := sc_law.nd
  obtain ⟨c0, hc0⟩ : ∃ c, (ns ++ [0])[0]? = some c := by
    cases ns with
    | nil => exact ⟨0, rfl⟩
    | cons n ns => exact ⟨n, rfl⟩
  refine bb_set 1 hn rfl (.inl rfl) (ee_call G1 h1 (ea_cons (e_ixL (ds := (ns ++ [0]).map PyData.int) (ee_op op_catQ (ee_v 0 rfl) (ee_lst (ead_cons ee_int ead_nil)) (r2_catQ (ms := [0]) (by show ns.length + 1 ≤ 100000; omega))) ee_int (at_ 0 rfl (by rw [List.getElem?_map, hc0]; rfl))) (ea_cons ee_int ea_nil)) ⟨c0, 0, by decide, by decide, rfl, rfl⟩) ?_
  have hnum := spread_num c0 0
  generalize spreadI c0 0 = ld at hnum ⊢
  refine bb_setX (P := NamesP) 2 hn rfl (.inl rfl) (ee_call G2 h1 (ea_cons (ee_v 1 rfl) ea_nil) ⟨ld, rfl, rfl⟩) ?_
  rintro _ ⟨nm, nok, rfl⟩
  have nm5 : Nm5 nm := ⟨nok.ln, nok.ok⟩
  obtain ⟨x1, hx1, _, ex1⟩ := nm_at nm5 (i := 1) (by decide) (by decide)
  refine bb_set (T := D (ctsD [ld / 10 ^ 20 % 4, 1 + ld / 10 ^ 21 % 3, 1 + ld / 10 ^ 22 % 2])) 3 hn rfl (.inl rfl) (EE.d (ee_lst (ead_cons (e_mod (e_div (ee_v 1 rfl) (e_pow ee_int ee_int (pw_c 20 (by decide))) (pw_lg (j := 20) (by decide))) ee_int (by decide))
    (ead_cons (e_add ee_int (e_mod (e_div (ee_v 1 rfl) (e_pow ee_int ee_int (pw_c 21 (by decide))) (pw_lg (j := 21) (by decide))) ee_int (by decide)))
    (ead_cons (e_add ee_int (e_mod (e_div (ee_v 1 rfl) (e_pow ee_int ee_int (pw_c 22 (by decide))) (pw_lg (j := 22) (by decide))) ee_int (by decide))) ead_nil)))) rfl) ?_
  have ca0 := Int.emod_nonneg (ld / 10 ^ 20) (show (4 : Int) ≠ 0 by decide)
  have ca1 := Int.emod_lt_of_pos (ld / 10 ^ 20) (show (0 : Int) < 4 by decide)
  have cb0 := Int.emod_nonneg (ld / 10 ^ 21) (show (3 : Int) ≠ 0 by decide)
  have cb1 := Int.emod_lt_of_pos (ld / 10 ^ 21) (show (0 : Int) < 3 by decide)
  have cc0 := Int.emod_nonneg (ld / 10 ^ 22) (show (2 : Int) ≠ 0 by decide)
  have cc1 := Int.emod_lt_of_pos (ld / 10 ^ 22) (show (0 : Int) < 2 by decide)
  generalize ld / 10 ^ 20 % 4 = qa at ca0 ca1 ⊢
  generalize ld / 10 ^ 21 % 3 = qb at cb0 cb1 ⊢
  generalize ld / 10 ^ 22 % 2 = qc at cc0 cc1 ⊢
  have cok : CtOk [qa, 1 + qb, 1 + qc] := ⟨rfl, fun c hc => by
    simp only [List.mem_cons, List.not_mem_nil, or_false] at hc
    omega⟩
  refine bb_setO 4 hn rfl (.inl rfl) (o_list B.list (ee_v 2 rfl)) ?_
  refine bb_join (fun ρ' => ∃ ms, Nm5 ms ∧ ρ' = [.va (ScT K ns), .va (D (.int ld)), .va (D (namesD nm)), .va (D (ctsD [qa, 1 + qb, 1 + qc])), .ow (OwnL (ms.map PyData.str)), .un, .un, .un])
    (EW.t (ew_and (t_eqI (e_mod (e_div (ee_v 1 rfl) (e_pow ee_int ee_int (pw_c 26 (by decide))) (pw_lg (j := 26) (by decide))) ee_int (by decide)) ee_int) fun _ => ew_and1 (t_neI (e_ixL (ee_v 3 rfl) ee_int (at_ 1 rfl rfl)) (e_ixL (ee_v 3 rfl) ee_int (at_ 2 rfl rfl))))) ?_ (fun _ E' hE => ?_) (fun _ => ⟨nm, nm5, rfl⟩)
  case refine_2 =>
    have hset : (nm.map PyData.str).set 2 (.str x1) = (nm.set 2 x1).map PyData.str := by rw [List.map_set]
    refine bb_setIx (ds := nm.map PyData.str) (k := 2) (n := 2) 4 rfl (ee_ixO 4 rfl ee_int ex1) ee_int (by rw [List.length_map, nm5.ln]; decide) (bb_nil (hE _ ⟨nm.set 2 x1, nm5_set nm5 hx1 2, ?_⟩))
    rw [hset]
    rfl
  rintro _ ⟨ms, mok, rfl⟩
  refine bb_fixL 4 rfl ?_
  refine bb_setO 5 hn rfl (.inl rfl) (eo_lst ead_nil) ?_
  have hl8 : ((ns.drop 1).take 8).length ≤ 8 := by rw [List.length_take]; omega
  generalize hcl : (ns.drop 1).take 8 = cells at hl8
  refine bb_for (fun i ρ => ∃ (rs : Rl) (x y : Sl), SomeOk ms [qa, 1 + qb, 1 + qc] rs ∧ rs.length ≤ i ∧ ρ = [.va (ScT K ns), .va (D (.int ld)), .va (D (namesD nm)), .va (D (ctsD [qa, 1 + qb, 1 + qc])), .va (D (namesD ms)), .ow (OwnL (rs.map ruleD)), x, y]) PassesOwn.never rfl
    (it_enum (ds := ([0] ++ cells).map PyData.int) B.enumerate (EE.d (e_catL (ee_lst (ead_cons ee_int ead_nil)) (ee_sl sl_list (ee_v 0 rfl) (ep_some ee_int) (ep_some ee_int) rs_Q) ?_) ?_)) ⟨[], _, _, ⟨(fun p hp => nomatch hp), by decide⟩, by decide, rfl⟩ ?_ ?_
  · rw [hcl, List.length_map]
    show 1 + cells.length ≤ 100000
    omega
  · rw [hcl]
    rfl
  · rintro i T ρ' hT ⟨rs, x, y, sok, hli, rfl⟩
    rw [List.getElem?_map, enumD_at, List.getElem?_map] at hT
    cases e : ([0] ++ cells)[i]? with
    | none => rw [e] at hT; cases hT
    | some cell =>
      rw [e] at hT
      rw [← Option.some.inj hT]
      have hi : i < ([0] ++ cells).length := (List.getElem?_eq_some_iff.mp e).1
      have hi9 : i < 9 := by
        rw [List.length_append, List.length_singleton] at hi
        omega
      have hnum2 := spread_num cell (((0 + i : Nat) : Int) + 2)
      refine ⟨_, _, gg_pair rfl (gg_name 6 hn rfl (.inl rfl)) (gg_name 7 hn rfl (.inl rfl)), ?_⟩
      refine bb_join (fun ρ' => ∃ rs', SomeOk ms [qa, 1 + qb, 1 + qc] rs' ∧ rs'.length ≤ i + 1 ∧ ρ' = [.va (ScT K ns), .va (D (.int ld)), .va (D (namesD nm)), .va (D (ctsD [qa, 1 + qb, 1 + qc])), .va (D (namesD ms)), .ow (OwnL (rs'.map ruleD)), .va (D (.int ((0 + i : Nat) : Int))), .va (D (.int cell))])
        (t_gtI (ee_v 6 rfl) ee_int) ?_ (fun hb E' hE => ?_) (fun _ => ⟨rs, sok, by omega, rfl⟩)
      · rintro _ ⟨rs', sok', hli', rfl⟩
        refine bb_skip (ET.to (et_not (et_val (ee_callO (d := .bool true) 5 G4 h15 rfl ⟨rs', ms.zip [qa, 1 + qb, 1 + qc], sok'.rl, ?_, sok'.hd, sok'.few cok, rfl, rfl⟩ (fun H v hv H' => by rw [dq_bool hv]; exact .bl true)))) rfl) ?_
        · rw [List.length_zip]
          have := cok.ln
          omega
        · exact bb_nil ⟨rs', _, _, sok', hli', rfl⟩
      · refine bb_appendX 5 rfl (by rw [List.length_map]; omega) (ee_call G3 h3 (ea_cons (ee_call G1 h1 (ea_cons (ee_v 7 rfl) (ea_cons (e_add (ee_v 6 rfl) ee_int) ea_nil)) ⟨cell, _, by omega, by omega, rfl, rfl⟩) (ea_cons (ee_v 4 rfl) (ea_cons (ee_v 3 rfl) ea_nil))) ⟨_, ms, _, hnum2, mok, cok, rfl, rfl⟩) ?_
        rintro _ ⟨p, hp, rfl⟩
        refine bb_nil (hE _ ⟨rs ++ [p], ⟨fun q hq => ?_, by rw [List.length_append, List.length_singleton]; omega⟩, by rw [List.length_append, List.length_singleton]; omega, by rw [List.map_append]; rfl⟩)
        rcases List.mem_append.mp hq with z | z
        · exact sok.ok q z
        · rw [List.mem_singleton.mp z]
          exact hp
  · rintro ρ' ⟨rs, x, y, sok, hli, rfl⟩
    exact bb_ret (ee_call G5 hr (ea_cons (e_div (ee_v 1 rfl) (e_pow ee_int ee_int (pw_c 23 (by decide))) (pw_lg (j := 23) (by decide))) (ea_cons (ee_v 2 rfl) ea_nil)) ⟨_, nm, nok, rfl, rfl⟩)
end
end K53

set_option Elab.async false
set_option linter.all false
set_option maxRecDepth 100000
set_option maxHeartbeats 4000000
namespace K53
open PySem PySem.Spec PyProof.Rows L2 DL Q
/-! ### the facts, and every def by its promise -/
def spLaw (K : PySem.W.Frag) : Sp := fun vs H Q _ => ∃ (a : Addr) (ns : List Int), vs = [.ref a] ∧ ns.length ≤ 1000 ∧ SqL K H a (ns.map V.int) ∧ ∀ H', Q (.bl true) H'
theorem spLaw_le {K : PySem.W.Frag} (vs : List V) (H : Hp) (Q : VK) (E : XK) (h : spLaw K vs H Q E) : spS (S_law K) vs H Q E := by
  obtain ⟨a, ns, rfl, hl, hS, hq⟩ := h
  refine ⟨[ScT K ns], D (.bool true), H, ⟨ns, hl, rfl, rfl⟩, Same.refl _, .cons ⟨a, rfl, hS⟩ .nil, fun v Hs' H' _ hv => ?_⟩
  rw [dq_bool hv]
  exact hq H'
structure FxOk (K : PySem.W.Frag) : Prop where
  iC : clsIs K (He.ga K "Calls") = true
  iT : clsIs K (He.ga K "TooMany") = true
  eT : excIs K (He.ga K "TooMany") = true
  kTT : PySem.W.kitOne K (.ref (He.ga K "TooMany")) (.ref (He.ga K "TooMany")) = some true
  kTN : PySem.W.kitOne K (.ref (He.ga K "TooMany")) (.ref (He.ga K "NoPaper")) = some false
  kCC : PySem.W.kitOne K (.ref (He.ga K "Calls")) (.ref (He.ga K "Calls")) = some true
  kCP : PySem.W.kitOne K (.ref (He.ga K "Calls")) (.ref (He.ga K "Paper")) = some true
theorem fx_ok {K : PySem.W.Frag} (h : fx K = true) : FxOk K := by
  obtain ⟨h1, h⟩ := He.ba h
  obtain ⟨h2, h⟩ := He.ba h
  obtain ⟨h3, h⟩ := He.ba h
  obtain ⟨h4, h⟩ := He.ba h
  obtain ⟨h5, h⟩ := He.ba h
  obtain ⟨h6, h7⟩ := He.ba h
  exact ⟨h1, h2, h3, of_decide_eq_true h4, of_decide_eq_true h5, of_decide_eq_true h6, of_decide_eq_true h7⟩
theorem isC_ok {K : PySem.W.Frag} {C : Addr} (cl : Cls K C) (h : clsIs K C = true) : IsC K C := by
  obtain ⟨h1, h⟩ := He.ba h
  obtain ⟨h2, h⟩ := He.ba h
  obtain ⟨h3, h4⟩ := He.ba h
  exact ⟨cl, He.eqO_ok h1, He.eqO_ok h2, of_decide_eq_true h3, of_decide_eq_true h4⟩
theorem excC_ok {K : PySem.W.Frag} {C : Addr} (hs : PySem.W.subIn K (.ref C) (.type "BaseException") = some true) (h : clsIs K C = true) (e : excIs K C = true) : ExcC K C := by
  obtain ⟨h1, h⟩ := He.ba h
  obtain ⟨h2, h⟩ := He.ba h
  obtain ⟨h3, h4⟩ := He.ba h
  obtain ⟨e1, e⟩ := He.ba e
  obtain ⟨e2, e3⟩ := He.ba e
  exact ⟨He.eqO_ok e1, He.eqO_ok e2, hs, e3, He.eqO_ok h1, He.eqO_ok h2, of_decide_eq_true h3, of_decide_eq_true h4⟩
theorem bi_ok {K : PySem.W.Frag} {h : Heap} {mg : Str → Option Value} (X : K.In h) (G : h.Ns mainGlobals mg) (c : He.SaysD fa fn K) : Bi mg where
  isinstance := He.free_ok X G (c.fact 41 (f := .free "isinstance") rfl)
  len := He.free_ok X G (c.fact 42 (f := .free "len") rfl)
  all := He.free_ok X G (c.fact 43 (f := .free "all") rfl)
  any := He.free_ok X G (c.fact 44 (f := .free "any") rfl)
  sorted := He.free_ok X G (c.fact 45 (f := .free "sorted") rfl)
  set := He.free_ok X G (c.fact 46 (f := .free "set") rfl)
  list := He.free_ok X G (c.fact 47 (f := .free "list") rfl)
  tuple := He.free_ok X G (c.fact 48 (f := .free "tuple") rfl)
  int := He.free_ok X G (c.fact 49 (f := .free "int") rfl)
  str := He.free_ok X G (c.fact 50 (f := .free "str") rfl)
  bool := He.free_ok X G (c.fact 51 (f := .free "bool") rfl)
  divmod := He.free_ok X G (c.fact 52 (f := .free "divmod") rfl)
  range := He.free_ok X G (c.fact 53 (f := .free "range") rfl)
  enumerate := He.free_ok X G (c.fact 54 (f := .free "enumerate") rfl)
  longest := He.int_ok X G (c.fact 55 (f := .int "LONGEST_NAME" 8) rfl)
  mblank := He.int_ok X G (c.fact 56 (f := .int "MOST_BLANK" 999) rfl)
  mplaces := He.int_ok X G (c.fact 57 (f := .int "MOST_PLACES" 9) rfl)
  mlevels := He.int_ok X G (c.fact 58 (f := .int "MOST_LEVELS" 60) rfl)
  mparts := He.int_ok X G (c.fact 59 (f := .int "MOST_PARTS" 1000) rfl)
  mchosen := He.int_ok X G (c.fact 60 (f := .int "MOST_CHOSEN" 60) rfl)
  mchoices := He.int_ok X G (c.fact 61 (f := .int "MOST_CHOICES" 3000) rfl)
  mrules := He.int_ok X G (c.fact 62 (f := .int "MOST_RULES" 40) rfl)
  letters := He.str_ok X G (c.fact 63 (f := .str "LETTERS" "abcdefghijklmnopqrstuvwxyz") rfl)
theorem d_is_whole {K : PySem.W.Frag} (c : He.SaysD fa fn K) : ∃ fd : FuncData, FnP K "is_whole" "is_whole" sIsWhole (He.ga K "is_whole") fd ∧ Binds K fd ["thing"] [] := by
  obtain ⟨fd, F⟩ : ∃ fd : FuncData, FnP K "is_whole" "is_whole" sIsWhole (He.ga K "is_whole") fd := c.def_ 0 (d := dIsWhole) rfl
  exact ⟨fd, F, F.bindsN fun _ _ _ _ _ _ us hl => match us, hl with | [_], _ => rfl⟩
theorem d_is_name {K : PySem.W.Frag} (c : He.SaysD fa fn K) : ∃ fd : FuncData, FnP K "is_name" "is_name" sIsName (He.ga K "is_name") fd ∧ Binds K fd ["thing"] [] := by
  obtain ⟨fd, F⟩ : ∃ fd : FuncData, FnP K "is_name" "is_name" sIsName (He.ga K "is_name") fd := c.def_ 1 (d := dIsName) rfl
  exact ⟨fd, F, F.bindsN fun _ _ _ _ _ _ us hl => match us, hl with | [_], _ => rfl⟩
theorem d_is_head {K : PySem.W.Frag} (c : He.SaysD fa fn K) : ∃ fd : FuncData, FnP K "is_head" "is_head" sIsHead (He.ga K "is_head") fd ∧ Binds K fd ["thing"] [] := by
  obtain ⟨fd, F⟩ : ∃ fd : FuncData, FnP K "is_head" "is_head" sIsHead (He.ga K "is_head") fd := c.def_ 2 (d := dIsHead) rfl
  exact ⟨fd, F, F.bindsN fun _ _ _ _ _ _ us hl => match us, hl with | [_], _ => rfl⟩
theorem d_parts_within {K : PySem.W.Frag} (c : He.SaysD fa fn K) : ∃ fd : FuncData, FnP K "parts_within" "parts_within" sPartsWithin (He.ga K "parts_within") fd ∧ Binds K fd ["thing", "room"] [] := by
  obtain ⟨fd, F⟩ : ∃ fd : FuncData, FnP K "parts_within" "parts_within" sPartsWithin (He.ga K "parts_within") fd := c.def_ 3 (d := dPartsWithin) rfl
  exact ⟨fd, F, F.bindsN fun _ _ _ _ _ _ us hl => match us, hl with | [_, _], _ => rfl⟩
theorem d_is_term {K : PySem.W.Frag} (c : He.SaysD fa fn K) : ∃ fd : FuncData, FnP K "is_term" "is_term" sIsTerm (He.ga K "is_term") fd ∧ Binds K fd ["thing"] [] := by
  obtain ⟨fd, F⟩ : ∃ fd : FuncData, FnP K "is_term" "is_term" sIsTerm (He.ga K "is_term") fd := c.def_ 4 (d := dIsTerm) rfl
  exact ⟨fd, F, F.bindsN fun _ _ _ _ _ _ us hl => match us, hl with | [_], _ => rfl⟩
theorem d_head {K : PySem.W.Frag} (c : He.SaysD fa fn K) : ∃ fd : FuncData, FnP K "head" "head" sHead (He.ga K "head") fd ∧ Binds K fd ["term"] [] := by
  obtain ⟨fd, F⟩ : ∃ fd : FuncData, FnP K "head" "head" sHead (He.ga K "head") fd := c.def_ 5 (d := dHead) rfl
  exact ⟨fd, F, F.bindsN fun _ _ _ _ _ _ us hl => match us, hl with | [_], _ => rfl⟩
theorem d_parts_from {K : PySem.W.Frag} (c : He.SaysD fa fn K) : ∃ fd : FuncData, FnP K "parts_from" "parts_from" sPartsFrom (He.ga K "parts_from") fd ∧ Binds K fd ["term", "path"] [] := by
  obtain ⟨fd, F⟩ : ∃ fd : FuncData, FnP K "parts_from" "parts_from" sPartsFrom (He.ga K "parts_from") fd := c.def_ 6 (d := dPartsFrom) rfl
  exact ⟨fd, F, F.bindsN fun _ _ _ _ _ _ us hl => match us, hl with | [_, _], _ => rfl⟩
theorem d_parts_of {K : PySem.W.Frag} (c : He.SaysD fa fn K) : ∃ fd : FuncData, FnP K "parts_of" "parts_of" sPartsOf (He.ga K "parts_of") fd ∧ Binds K fd ["term"] [] := by
  obtain ⟨fd, F⟩ : ∃ fd : FuncData, FnP K "parts_of" "parts_of" sPartsOf (He.ga K "parts_of") fd := c.def_ 7 (d := dPartsOf) rfl
  exact ⟨fd, F, F.bindsN fun _ _ _ _ _ _ us hl => match us, hl with | [_], _ => rfl⟩
theorem d_blanks {K : PySem.W.Frag} (c : He.SaysD fa fn K) : ∃ fd : FuncData, FnP K "blanks" "blanks" sBlanks (He.ga K "blanks") fd ∧ Binds K fd ["term"] [] := by
  obtain ⟨fd, F⟩ : ∃ fd : FuncData, FnP K "blanks" "blanks" sBlanks (He.ga K "blanks") fd := c.def_ 8 (d := dBlanks) rfl
  exact ⟨fd, F, F.bindsN fun _ _ _ _ _ _ us hl => match us, hl with | [_], _ => rfl⟩
theorem d_made_heads {K : PySem.W.Frag} (c : He.SaysD fa fn K) : ∃ fd : FuncData, FnP K "made_heads" "made_heads" sMadeHeads (He.ga K "made_heads") fd ∧ Binds K fd ["rules"] [] := by
  obtain ⟨fd, F⟩ : ∃ fd : FuncData, FnP K "made_heads" "made_heads" sMadeHeads (He.ga K "made_heads") fd := c.def_ 9 (d := dMadeHeads) rfl
  exact ⟨fd, F, F.bindsN fun _ _ _ _ _ _ us hl => match us, hl with | [_], _ => rfl⟩
theorem d_sides_of_calls {K : PySem.W.Frag} (c : He.SaysD fa fn K) : ∃ fd : FuncData, FnP K "sides_of_calls" "sides_of_calls" sSidesOfCalls (He.ga K "sides_of_calls") fd ∧ Binds K fd ["rules"] [] := by
  obtain ⟨fd, F⟩ : ∃ fd : FuncData, FnP K "sides_of_calls" "sides_of_calls" sSidesOfCalls (He.ga K "sides_of_calls") fd := c.def_ 10 (d := dSidesOfCalls) rfl
  exact ⟨fd, F, F.bindsN fun _ _ _ _ _ _ us hl => match us, hl with | [_], _ => rfl⟩
theorem d_led_from {K : PySem.W.Frag} (c : He.SaysD fa fn K) : ∃ fd : FuncData, FnP K "led_from" "led_from" sLedFrom (He.ga K "led_from") fd ∧ Binds K fd ["ways", "begin"] [] := by
  obtain ⟨fd, F⟩ : ∃ fd : FuncData, FnP K "led_from" "led_from" sLedFrom (He.ga K "led_from") fd := c.def_ 11 (d := dLedFrom) rfl
  exact ⟨fd, F, F.bindsN fun _ _ _ _ _ _ us hl => match us, hl with | [_, _], _ => rfl⟩
theorem d_leads {K : PySem.W.Frag} (c : He.SaysD fa fn K) : ∃ fd : FuncData, FnP K "leads" "leads" sLeads (He.ga K "leads") fd ∧ Binds K fd ["rules"] [] := by
  obtain ⟨fd, F⟩ : ∃ fd : FuncData, FnP K "leads" "leads" sLeads (He.ga K "leads") fd := c.def_ 12 (d := dLeads) rfl
  exact ⟨fd, F, F.bindsN fun _ _ _ _ _ _ us hl => match us, hl with | [_], _ => rfl⟩
theorem d_is_part {K : PySem.W.Frag} (c : He.SaysD fa fn K) : ∃ fd : FuncData, FnP K "is_part" "is_part" sIsPart (He.ga K "is_part") fd ∧ Binds K fd ["term", "other"] [] := by
  obtain ⟨fd, F⟩ : ∃ fd : FuncData, FnP K "is_part" "is_part" sIsPart (He.ga K "is_part") fd := c.def_ 13 (d := dIsPart) rfl
  exact ⟨fd, F, F.bindsN fun _ _ _ _ _ _ us hl => match us, hl with | [_, _], _ => rfl⟩
theorem d_is_choice {K : PySem.W.Frag} (c : He.SaysD fa fn K) : ∃ fd : FuncData, FnP K "is_choice" "is_choice" sIsChoice (He.ga K "is_choice") fd ∧ Binds K fd ["thing"] [] := by
  obtain ⟨fd, F⟩ : ∃ fd : FuncData, FnP K "is_choice" "is_choice" sIsChoice (He.ga K "is_choice") fd := c.def_ 14 (d := dIsChoice) rfl
  exact ⟨fd, F, F.bindsN fun _ _ _ _ _ _ us hl => match us, hl with | [_], _ => rfl⟩
theorem d_Calls___init__ {K : PySem.W.Frag} (c : He.SaysD fa fn K) : ∃ fd : FuncData, FnP K "__init__" "Calls.__init__" sCallsInit (He.ma K (He.ga K "Calls") "__init__") fd ∧ Binds K fd ["self", "chosen"] [] := by
  obtain ⟨fd, F⟩ : ∃ fd : FuncData, FnP K "__init__" "Calls.__init__" sCallsInit (He.ma K (He.ga K "Calls") "__init__") fd := c.def_ 15 (d := dCallsInit) rfl
  exact ⟨fd, F, F.bindsN fun _ _ _ _ _ _ us hl => match us, hl with | [_, _], _ => rfl⟩
theorem d_Calls_told {K : PySem.W.Frag} (c : He.SaysD fa fn K) : ∃ fd : FuncData, FnP K "told" "Calls.told" sCallsTold (He.ma K (He.ga K "Calls") "told") fd ∧ Binds K fd ["self"] [] := by
  obtain ⟨fd, F⟩ : ∃ fd : FuncData, FnP K "told" "Calls.told" sCallsTold (He.ma K (He.ga K "Calls") "told") fd := c.def_ 16 (d := dCallsTold) rfl
  exact ⟨fd, F, F.bindsN fun _ _ _ _ _ _ us hl => match us, hl with | [_], _ => rfl⟩
theorem d_Calls_has_place {K : PySem.W.Frag} (c : He.SaysD fa fn K) : ∃ fd : FuncData, FnP K "has_place" "Calls.has_place" sCallsHasPlace (He.ma K (He.ga K "Calls") "has_place") fd ∧ Binds K fd ["self", "term"] [] := by
  obtain ⟨fd, F⟩ : ∃ fd : FuncData, FnP K "has_place" "Calls.has_place" sCallsHasPlace (He.ma K (He.ga K "Calls") "has_place") fd := c.def_ 17 (d := dCallsHasPlace) rfl
  exact ⟨fd, F, F.bindsN fun _ _ _ _ _ _ us hl => match us, hl with | [_, _], _ => rfl⟩
theorem d_Calls_stands {K : PySem.W.Frag} (c : He.SaysD fa fn K) : ∃ fd : FuncData, FnP K "stands" "Calls.stands" sCallsStands (He.ma K (He.ga K "Calls") "stands") fd ∧ Binds K fd ["self", "term"] [] := by
  obtain ⟨fd, F⟩ : ∃ fd : FuncData, FnP K "stands" "Calls.stands" sCallsStands (He.ma K (He.ga K "Calls") "stands") fd := c.def_ 18 (d := dCallsStands) rfl
  exact ⟨fd, F, F.bindsN fun _ _ _ _ _ _ us hl => match us, hl with | [_, _], _ => rfl⟩
theorem d_Calls_lets {K : PySem.W.Frag} (c : He.SaysD fa fn K) : ∃ fd : FuncData, FnP K "lets" "Calls.lets" sCallsLets (He.ma K (He.ga K "Calls") "lets") fd ∧ Binds K fd ["self", "rules"] [] := by
  obtain ⟨fd, F⟩ : ∃ fd : FuncData, FnP K "lets" "Calls.lets" sCallsLets (He.ma K (He.ga K "Calls") "lets") fd := c.def_ 19 (d := dCallsLets) rfl
  exact ⟨fd, F, F.bindsN fun _ _ _ _ _ _ us hl => match us, hl with | [_, _], _ => rfl⟩
theorem d_choices_of {K : PySem.W.Frag} (c : He.SaysD fa fn K) : ∃ fd : FuncData, FnP K "choices_of" "choices_of" sChoicesOf (He.ga K "choices_of") fd ∧ Binds K fd ["heads"] [] := by
  obtain ⟨fd, F⟩ : ∃ fd : FuncData, FnP K "choices_of" "choices_of" sChoicesOf (He.ga K "choices_of") fd := c.def_ 20 (d := dChoicesOf) rfl
  exact ⟨fd, F, F.bindsN fun _ _ _ _ _ _ us hl => match us, hl with | [_], _ => rfl⟩
theorem d_calls_of {K : PySem.W.Frag} (c : He.SaysD fa fn K) : ∃ fd : FuncData, FnP K "calls_of" "calls_of" sCallsOf (He.ga K "calls_of") fd ∧ Binds K fd ["rules"] [] := by
  obtain ⟨fd, F⟩ : ∃ fd : FuncData, FnP K "calls_of" "calls_of" sCallsOf (He.ga K "calls_of") fd := c.def_ 21 (d := dCallsOf) rfl
  exact ⟨fd, F, F.bindsN fun _ _ _ _ _ _ us hl => match us, hl with | [_], _ => rfl⟩
theorem d_is_rule {K : PySem.W.Frag} (c : He.SaysD fa fn K) : ∃ fd : FuncData, FnP K "is_rule" "is_rule" sIsRule (He.ga K "is_rule") fd ∧ Binds K fd ["thing"] [] := by
  obtain ⟨fd, F⟩ : ∃ fd : FuncData, FnP K "is_rule" "is_rule" sIsRule (He.ga K "is_rule") fd := c.def_ 22 (d := dIsRule) rfl
  exact ⟨fd, F, F.bindsN fun _ _ _ _ _ _ us hl => match us, hl with | [_], _ => rfl⟩
theorem d_Rules___init__ {K : PySem.W.Frag} (c : He.SaysD fa fn K) : ∃ fd : FuncData, FnP K "__init__" "Rules.__init__" sRulesInit (He.ma K (He.ga K "Rules") "__init__") fd ∧ Binds K fd ["self", "rules"] [] := by
  obtain ⟨fd, F⟩ : ∃ fd : FuncData, FnP K "__init__" "Rules.__init__" sRulesInit (He.ma K (He.ga K "Rules") "__init__") fd := c.def_ 23 (d := dRulesInit) rfl
  exact ⟨fd, F, F.bindsN fun _ _ _ _ _ _ us hl => match us, hl with | [_, _], _ => rfl⟩
theorem d_Rules_told {K : PySem.W.Frag} (c : He.SaysD fa fn K) : ∃ fd : FuncData, FnP K "told" "Rules.told" sRulesTold (He.ma K (He.ga K "Rules") "told") fd ∧ Binds K fd ["self"] [] := by
  obtain ⟨fd, F⟩ : ∃ fd : FuncData, FnP K "told" "Rules.told" sRulesTold (He.ma K (He.ga K "Rules") "told") fd := c.def_ 24 (d := dRulesTold) rfl
  exact ⟨fd, F, F.bindsN fun _ _ _ _ _ _ us hl => match us, hl with | [_], _ => rfl⟩
theorem d__law_whole {K : PySem.W.Frag} (c : He.SaysD fa fn K) : ∃ fd : FuncData, FnP K "_law_whole" "_law_whole" sLawWhole (He.ga K "_law_whole") fd ∧ Binds K fd ["_law_found"] [] := by
  obtain ⟨fd, F⟩ : ∃ fd : FuncData, FnP K "_law_whole" "_law_whole" sLawWhole (He.ga K "_law_whole") fd := c.def_ 25 (d := dLawWhole) rfl
  exact ⟨fd, F, F.bindsN fun _ _ _ _ _ _ us hl => match us, hl with | [_], _ => rfl⟩
theorem d__law_spread {K : PySem.W.Frag} (c : He.SaysD fa fn K) : ∃ fd : FuncData, FnP K "_law_spread" "_law_spread" sLawSpread (He.ga K "_law_spread") fd ∧ Binds K fd ["_law_cell", "_law_k"] [] := by
  obtain ⟨fd, F⟩ : ∃ fd : FuncData, FnP K "_law_spread" "_law_spread" sLawSpread (He.ga K "_law_spread") fd := c.def_ 26 (d := dLawSpread) rfl
  exact ⟨fd, F, F.bindsN fun _ _ _ _ _ _ us hl => match us, hl with | [_, _], _ => rfl⟩
theorem d__law_mixed {K : PySem.W.Frag} (c : He.SaysD fa fn K) : ∃ fd : FuncData, FnP K "_law_mixed" "_law_mixed" sLawMixed (He.ga K "_law_mixed") fd ∧ Binds K fd ["_law_number", "_law_k"] [] := by
  obtain ⟨fd, F⟩ : ∃ fd : FuncData, FnP K "_law_mixed" "_law_mixed" sLawMixed (He.ga K "_law_mixed") fd := c.def_ 27 (d := dLawMixed) rfl
  exact ⟨fd, F, F.bindsN fun _ _ _ _ _ _ us hl => match us, hl with | [_, _], _ => rfl⟩
theorem d__law_names {K : PySem.W.Frag} (c : He.SaysD fa fn K) : ∃ fd : FuncData, FnP K "_law_names" "_law_names" sLawNames (He.ga K "_law_names") fd ∧ Binds K fd ["_law_number"] [] := by
  obtain ⟨fd, F⟩ : ∃ fd : FuncData, FnP K "_law_names" "_law_names" sLawNames (He.ga K "_law_names") fd := c.def_ 28 (d := dLawNames) rfl
  exact ⟨fd, F, F.bindsN fun _ _ _ _ _ _ us hl => match us, hl with | [_], _ => rfl⟩
theorem d__law_place {K : PySem.W.Frag} (c : He.SaysD fa fn K) : ∃ fd : FuncData, FnP K "_law_place" "_law_place" sLawPlace (He.ga K "_law_place") fd ∧ Binds K fd ["_law_number", "_law_names_here", "_law_blank"] [] := by
  obtain ⟨fd, F⟩ : ∃ fd : FuncData, FnP K "_law_place" "_law_place" sLawPlace (He.ga K "_law_place") fd := c.def_ 29 (d := dLawPlace) rfl
  exact ⟨fd, F, F.bindsN fun _ _ _ _ _ _ us hl => match us, hl with | [_, _, _], _ => rfl⟩
theorem d__law_call {K : PySem.W.Frag} (c : He.SaysD fa fn K) : ∃ fd : FuncData, FnP K "_law_call" "_law_call" sLawCall (He.ga K "_law_call") fd ∧ Binds K fd ["_law_number", "_law_names_here", "_law_counts", "_law_places"] [] := by
  obtain ⟨fd, F⟩ : ∃ fd : FuncData, FnP K "_law_call" "_law_call" sLawCall (He.ga K "_law_call") fd := c.def_ 30 (d := dLawCall) rfl
  exact ⟨fd, F, F.bindsN fun _ _ _ _ _ _ us hl => match us, hl with | [_, _, _, _], _ => rfl⟩
theorem d__law_rule {K : PySem.W.Frag} (c : He.SaysD fa fn K) : ∃ fd : FuncData, FnP K "_law_rule" "_law_rule" sLawRule (He.ga K "_law_rule") fd ∧ Binds K fd ["_law_number", "_law_names_here", "_law_counts"] [] := by
  obtain ⟨fd, F⟩ : ∃ fd : FuncData, FnP K "_law_rule" "_law_rule" sLawRule (He.ga K "_law_rule") fd := c.def_ 31 (d := dLawRule) rfl
  exact ⟨fd, F, F.bindsN fun _ _ _ _ _ _ us hl => match us, hl with | [_, _, _], _ => rfl⟩
theorem d__law_head {K : PySem.W.Frag} (c : He.SaysD fa fn K) : ∃ fd : FuncData, FnP K "_law_head" "_law_head" sLawHead (He.ga K "_law_head") fd ∧ Binds K fd ["_law_term"] [] := by
  obtain ⟨fd, F⟩ : ∃ fd : FuncData, FnP K "_law_head" "_law_head" sLawHead (He.ga K "_law_head") fd := c.def_ 32 (d := dLawHead) rfl
  exact ⟨fd, F, F.bindsN fun _ _ _ _ _ _ us hl => match us, hl with | [_], _ => rfl⟩
theorem d__law_heads {K : PySem.W.Frag} (c : He.SaysD fa fn K) : ∃ fd : FuncData, FnP K "_law_heads" "_law_heads" sLawHeads (He.ga K "_law_heads") fd ∧ Binds K fd ["_law_term"] [] := by
  obtain ⟨fd, F⟩ : ∃ fd : FuncData, FnP K "_law_heads" "_law_heads" sLawHeads (He.ga K "_law_heads") fd := c.def_ 33 (d := dLawHeads) rfl
  exact ⟨fd, F, F.bindsN fun _ _ _ _ _ _ us hl => match us, hl with | [_], _ => rfl⟩
theorem d__law_ringed {K : PySem.W.Frag} (c : He.SaysD fa fn K) : ∃ fd : FuncData, FnP K "_law_ringed" "_law_ringed" sLawRinged (He.ga K "_law_ringed") fd ∧ Binds K fd ["_law_some"] [] := by
  obtain ⟨fd, F⟩ : ∃ fd : FuncData, FnP K "_law_ringed" "_law_ringed" sLawRinged (He.ga K "_law_ringed") fd := c.def_ 34 (d := dLawRinged) rfl
  exact ⟨fd, F, F.bindsN fun _ _ _ _ _ _ us hl => match us, hl with | [_], _ => rfl⟩
theorem d__law_choices {K : PySem.W.Frag} (c : He.SaysD fa fn K) : ∃ fd : FuncData, FnP K "_law_choices" "_law_choices" sLawChoices (He.ga K "_law_choices") fd ∧ Binds K fd ["_law_tops"] [] := by
  obtain ⟨fd, F⟩ : ∃ fd : FuncData, FnP K "_law_choices" "_law_choices" sLawChoices (He.ga K "_law_choices") fd := c.def_ 35 (d := dLawChoices) rfl
  exact ⟨fd, F, F.bindsN fun _ _ _ _ _ _ us hl => match us, hl with | [_], _ => rfl⟩
theorem d__law_right {K : PySem.W.Frag} (c : He.SaysD fa fn K) : ∃ fd : FuncData, FnP K "_law_right" "_law_right" sLawRight (He.ga K "_law_right") fd ∧ Binds K fd ["_law_some"] [] := by
  obtain ⟨fd, F⟩ : ∃ fd : FuncData, FnP K "_law_right" "_law_right" sLawRight (He.ga K "_law_right") fd := c.def_ 36 (d := dLawRight) rfl
  exact ⟨fd, F, F.bindsN fun _ _ _ _ _ _ us hl => match us, hl with | [_], _ => rfl⟩
theorem d__law_answer {K : PySem.W.Frag} (c : He.SaysD fa fn K) : ∃ fd : FuncData, FnP K "_law_answer" "_law_answer" sLawAnswer (He.ga K "_law_answer") fd ∧ Binds K fd ["_law_rules"] [] := by
  obtain ⟨fd, F⟩ : ∃ fd : FuncData, FnP K "_law_answer" "_law_answer" sLawAnswer (He.ga K "_law_answer") fd := c.def_ 37 (d := dLawAnswer) rfl
  exact ⟨fd, F, F.bindsN fun _ _ _ _ _ _ us hl => match us, hl with | [_], _ => rfl⟩
theorem d__law_down {K : PySem.W.Frag} (c : He.SaysD fa fn K) : ∃ fd : FuncData, FnP K "_law_down" "_law_down" sLawDown (He.ga K "_law_down") fd ∧ Binds K fd ["_law_name", "_law_count", "_law_inner"] [] := by
  obtain ⟨fd, F⟩ : ∃ fd : FuncData, FnP K "_law_down" "_law_down" sLawDown (He.ga K "_law_down") fd := c.def_ 38 (d := dLawDown) rfl
  exact ⟨fd, F, F.bindsN fun _ _ _ _ _ _ us hl => match us, hl with | [_, _, _], _ => rfl⟩
theorem d__law_many {K : PySem.W.Frag} (c : He.SaysD fa fn K) : ∃ fd : FuncData, FnP K "_law_many" "_law_many" sLawMany (He.ga K "_law_many") fd ∧ Binds K fd ["_law_number", "_law_names_here"] [] := by
  obtain ⟨fd, F⟩ : ∃ fd : FuncData, FnP K "_law_many" "_law_many" sLawMany (He.ga K "_law_many") fd := c.def_ 39 (d := dLawMany) rfl
  exact ⟨fd, F, F.bindsN fun _ _ _ _ _ _ us hl => match us, hl with | [_, _], _ => rfl⟩
theorem d_law {K : PySem.W.Frag} (c : He.SaysD fa fn K) : ∃ fd : FuncData, FnP K "law" "law" sLaw (He.ga K "law") fd ∧ Binds K fd ["_law_script"] [] := by
  obtain ⟨fd, F⟩ : ∃ fd : FuncData, FnP K "law" "law" sLaw (He.ga K "law") fd := c.def_ 40 (d := dLaw) rfl
  exact ⟨fd, F, F.bindsN fun _ _ _ _ _ _ us hl => match us, hl with | [_], _ => rfl⟩
theorem facts {P : Program} {w : World} {K : PySem.W.Frag} {h : Heap} {mg : Str → Option Value} {f : Addr} (X : K.In h) (G : h.Ns mainGlobals mg) (hfa : mg ("law" : Str) = some (.ref f)) (x : FxOk K) (c : He.SaysD fa fn K) :
    ∃ fd : FuncData, (∀ (s : Shared) (v : Value), BindsTo s fd ⟨[v], []⟩ [("_law_script", v)]) ∧ ∀ base : Heap, K.In base → base.Ns mainGlobals mg → FnOk P w K mg base CX0 17 f fd ["_law_script"] (spLaw K) := by
  have B := bi_ok X G c
  have gEndError : mg "EndError" = some (.ref (He.ga K "EndError")) := He.glo_ok X G (c.fact 34 (f := .glo "EndError") rfl)
  have gNoPaper : mg "NoPaper" = some (.ref (He.ga K "NoPaper")) := He.glo_ok X G (c.fact 35 (f := .glo "NoPaper") rfl)
  have gTooMany : mg "TooMany" = some (.ref (He.ga K "TooMany")) := He.glo_ok X G (c.fact 36 (f := .glo "TooMany") rfl)
  have gPaper : mg "Paper" = some (.ref (He.ga K "Paper")) := He.glo_ok X G (c.fact 38 (f := .glo "Paper") rfl)
  have gCalls : mg "Calls" = some (.ref (He.ga K "Calls")) := He.glo_ok X G (c.fact 39 (f := .glo "Calls") rfl)
  have gRules : mg "Rules" = some (.ref (He.ga K "Rules")) := He.glo_ok X G (c.fact 40 (f := .glo "Rules") rfl)
  have cC := He.cls_ok (c.fact 64 (f := .cls "Calls") rfl)
  have cR := He.cls_ok (c.fact 65 (f := .cls "Rules") rfl)
  have nC := He.noat_ok (c.fact 66 (f := .noat "Calls" "place_of") rfl)
  have nR := He.noat_ok (c.fact 67 (f := .noat "Rules" "kept") rfl)
  have iC := isC_ok cC x.iC
  obtain ⟨x1, x2, x3, x4⟩ := He.exc_ok (c.fact 75 (f := .exc "TooMany") rfl)
  have eT := excC_ok x3 x.iT x.eT
  have hex := He.exm_ok (c.fact 76 (f := .exm "TooMany" "EndError" true) rfl)
  have T : ExT K mg "TooMany" (He.ga K "TooMany") := ⟨x1, gTooMany, x2, x3, x4⟩
  obtain ⟨fd_is_whole, F_is_whole, b_is_whole⟩ := d_is_whole c
  have m_is_whole : mg "is_whole" = some (.ref (He.ga K "is_whole")) := He.glo_ok X G (c.fact 0 (f := .glo "is_whole") rfl)
  obtain ⟨fd_is_name, F_is_name, b_is_name⟩ := d_is_name c
  have m_is_name : mg "is_name" = some (.ref (He.ga K "is_name")) := He.glo_ok X G (c.fact 1 (f := .glo "is_name") rfl)
  obtain ⟨fd_is_head, F_is_head, b_is_head⟩ := d_is_head c
  have m_is_head : mg "is_head" = some (.ref (He.ga K "is_head")) := He.glo_ok X G (c.fact 2 (f := .glo "is_head") rfl)
  obtain ⟨fd_parts_within, F_parts_within, b_parts_within⟩ := d_parts_within c
  have m_parts_within : mg "parts_within" = some (.ref (He.ga K "parts_within")) := He.glo_ok X G (c.fact 3 (f := .glo "parts_within") rfl)
  obtain ⟨fd_is_term, F_is_term, b_is_term⟩ := d_is_term c
  have m_is_term : mg "is_term" = some (.ref (He.ga K "is_term")) := He.glo_ok X G (c.fact 4 (f := .glo "is_term") rfl)
  obtain ⟨fd_head, F_head, b_head⟩ := d_head c
  have m_head : mg "head" = some (.ref (He.ga K "head")) := He.glo_ok X G (c.fact 5 (f := .glo "head") rfl)
  obtain ⟨fd_parts_from, F_parts_from, b_parts_from⟩ := d_parts_from c
  have m_parts_from : mg "parts_from" = some (.ref (He.ga K "parts_from")) := He.glo_ok X G (c.fact 6 (f := .glo "parts_from") rfl)
  obtain ⟨fd_parts_of, F_parts_of, b_parts_of⟩ := d_parts_of c
  have m_parts_of : mg "parts_of" = some (.ref (He.ga K "parts_of")) := He.glo_ok X G (c.fact 7 (f := .glo "parts_of") rfl)
  obtain ⟨fd_blanks, F_blanks, b_blanks⟩ := d_blanks c
  have m_blanks : mg "blanks" = some (.ref (He.ga K "blanks")) := He.glo_ok X G (c.fact 8 (f := .glo "blanks") rfl)
  obtain ⟨fd_made_heads, F_made_heads, b_made_heads⟩ := d_made_heads c
  have m_made_heads : mg "made_heads" = some (.ref (He.ga K "made_heads")) := He.glo_ok X G (c.fact 9 (f := .glo "made_heads") rfl)
  obtain ⟨fd_sides_of_calls, F_sides_of_calls, b_sides_of_calls⟩ := d_sides_of_calls c
  have m_sides_of_calls : mg "sides_of_calls" = some (.ref (He.ga K "sides_of_calls")) := He.glo_ok X G (c.fact 10 (f := .glo "sides_of_calls") rfl)
  obtain ⟨fd_led_from, F_led_from, b_led_from⟩ := d_led_from c
  have m_led_from : mg "led_from" = some (.ref (He.ga K "led_from")) := He.glo_ok X G (c.fact 11 (f := .glo "led_from") rfl)
  obtain ⟨fd_leads, F_leads, b_leads⟩ := d_leads c
  have m_leads : mg "leads" = some (.ref (He.ga K "leads")) := He.glo_ok X G (c.fact 12 (f := .glo "leads") rfl)
  obtain ⟨fd_is_part, F_is_part, b_is_part⟩ := d_is_part c
  have m_is_part : mg "is_part" = some (.ref (He.ga K "is_part")) := He.glo_ok X G (c.fact 13 (f := .glo "is_part") rfl)
  obtain ⟨fd_is_choice, F_is_choice, b_is_choice⟩ := d_is_choice c
  have m_is_choice : mg "is_choice" = some (.ref (He.ga K "is_choice")) := He.glo_ok X G (c.fact 14 (f := .glo "is_choice") rfl)
  obtain ⟨fd_Calls___init__, F_Calls___init__, b_Calls___init__⟩ := d_Calls___init__ c
  obtain ⟨fd_Calls_told, F_Calls_told, b_Calls_told⟩ := d_Calls_told c
  obtain ⟨fd_Calls_has_place, F_Calls_has_place, b_Calls_has_place⟩ := d_Calls_has_place c
  obtain ⟨fd_Calls_stands, F_Calls_stands, b_Calls_stands⟩ := d_Calls_stands c
  obtain ⟨fd_Calls_lets, F_Calls_lets, b_Calls_lets⟩ := d_Calls_lets c
  obtain ⟨fd_choices_of, F_choices_of, b_choices_of⟩ := d_choices_of c
  have m_choices_of : mg "choices_of" = some (.ref (He.ga K "choices_of")) := He.glo_ok X G (c.fact 15 (f := .glo "choices_of") rfl)
  obtain ⟨fd_calls_of, F_calls_of, b_calls_of⟩ := d_calls_of c
  have m_calls_of : mg "calls_of" = some (.ref (He.ga K "calls_of")) := He.glo_ok X G (c.fact 16 (f := .glo "calls_of") rfl)
  obtain ⟨fd_is_rule, F_is_rule, b_is_rule⟩ := d_is_rule c
  have m_is_rule : mg "is_rule" = some (.ref (He.ga K "is_rule")) := He.glo_ok X G (c.fact 17 (f := .glo "is_rule") rfl)
  obtain ⟨fd_Rules___init__, F_Rules___init__, b_Rules___init__⟩ := d_Rules___init__ c
  obtain ⟨fd_Rules_told, F_Rules_told, b_Rules_told⟩ := d_Rules_told c
  obtain ⟨fd__law_whole, F__law_whole, b__law_whole⟩ := d__law_whole c
  have m__law_whole : mg "_law_whole" = some (.ref (He.ga K "_law_whole")) := He.glo_ok X G (c.fact 18 (f := .glo "_law_whole") rfl)
  obtain ⟨fd__law_spread, F__law_spread, b__law_spread⟩ := d__law_spread c
  have m__law_spread : mg "_law_spread" = some (.ref (He.ga K "_law_spread")) := He.glo_ok X G (c.fact 19 (f := .glo "_law_spread") rfl)
  obtain ⟨fd__law_mixed, F__law_mixed, b__law_mixed⟩ := d__law_mixed c
  have m__law_mixed : mg "_law_mixed" = some (.ref (He.ga K "_law_mixed")) := He.glo_ok X G (c.fact 20 (f := .glo "_law_mixed") rfl)
  obtain ⟨fd__law_names, F__law_names, b__law_names⟩ := d__law_names c
  have m__law_names : mg "_law_names" = some (.ref (He.ga K "_law_names")) := He.glo_ok X G (c.fact 21 (f := .glo "_law_names") rfl)
  obtain ⟨fd__law_place, F__law_place, b__law_place⟩ := d__law_place c
  have m__law_place : mg "_law_place" = some (.ref (He.ga K "_law_place")) := He.glo_ok X G (c.fact 22 (f := .glo "_law_place") rfl)
  obtain ⟨fd__law_call, F__law_call, b__law_call⟩ := d__law_call c
  have m__law_call : mg "_law_call" = some (.ref (He.ga K "_law_call")) := He.glo_ok X G (c.fact 23 (f := .glo "_law_call") rfl)
  obtain ⟨fd__law_rule, F__law_rule, b__law_rule⟩ := d__law_rule c
  have m__law_rule : mg "_law_rule" = some (.ref (He.ga K "_law_rule")) := He.glo_ok X G (c.fact 24 (f := .glo "_law_rule") rfl)
  obtain ⟨fd__law_head, F__law_head, b__law_head⟩ := d__law_head c
  have m__law_head : mg "_law_head" = some (.ref (He.ga K "_law_head")) := He.glo_ok X G (c.fact 25 (f := .glo "_law_head") rfl)
  obtain ⟨fd__law_heads, F__law_heads, b__law_heads⟩ := d__law_heads c
  have m__law_heads : mg "_law_heads" = some (.ref (He.ga K "_law_heads")) := He.glo_ok X G (c.fact 26 (f := .glo "_law_heads") rfl)
  obtain ⟨fd__law_ringed, F__law_ringed, b__law_ringed⟩ := d__law_ringed c
  have m__law_ringed : mg "_law_ringed" = some (.ref (He.ga K "_law_ringed")) := He.glo_ok X G (c.fact 27 (f := .glo "_law_ringed") rfl)
  obtain ⟨fd__law_choices, F__law_choices, b__law_choices⟩ := d__law_choices c
  have m__law_choices : mg "_law_choices" = some (.ref (He.ga K "_law_choices")) := He.glo_ok X G (c.fact 28 (f := .glo "_law_choices") rfl)
  obtain ⟨fd__law_right, F__law_right, b__law_right⟩ := d__law_right c
  have m__law_right : mg "_law_right" = some (.ref (He.ga K "_law_right")) := He.glo_ok X G (c.fact 29 (f := .glo "_law_right") rfl)
  obtain ⟨fd__law_answer, F__law_answer, b__law_answer⟩ := d__law_answer c
  have m__law_answer : mg "_law_answer" = some (.ref (He.ga K "_law_answer")) := He.glo_ok X G (c.fact 30 (f := .glo "_law_answer") rfl)
  obtain ⟨fd__law_down, F__law_down, b__law_down⟩ := d__law_down c
  have m__law_down : mg "_law_down" = some (.ref (He.ga K "_law_down")) := He.glo_ok X G (c.fact 31 (f := .glo "_law_down") rfl)
  obtain ⟨fd__law_many, F__law_many, b__law_many⟩ := d__law_many c
  have m__law_many : mg "_law_many" = some (.ref (He.ga K "_law_many")) := He.glo_ok X G (c.fact 32 (f := .glo "_law_many") rfl)
  obtain ⟨fd_law, F_law⟩ : ∃ fd : FuncData, FnP K "law" "law" sLaw (He.ga K "law") fd := c.def_ 40 (d := dLaw) rfl
  have e := hfa.symm.trans (He.glo_ok X G (c.fact 33 (f := .glo "law") rfl))
  cases e
  have bL := FunD.bindsA (ps := ["_law_script"]) F_law fun _ _ _ _ _ _ us hl => match us, hl with | [_], _ => rfl
  refine ⟨fd_law, fun s v => bL s [v] rfl, fun base _ _ => ?_⟩
  have Gwhole : Fn P w K mg base 1 "is_whole" S_whole := fn_mk F_is_whole (ok_is_whole B F_is_whole) m_is_whole b_is_whole
  have Gname : Fn P w K mg base 1 "is_name" S_name := fn_mk F_is_name (ok_is_name B F_is_name) m_is_name b_is_name
  have Ghead : Fn P w K mg base 2 "head" S_head := fn_mk F_head (ok_head B Gwhole F_head) m_head b_head
  have Gishead : Fn P w K mg base 2 "is_head" S_ishead := fn_mk F_is_head (ok_is_head B Gwhole Gname F_is_head) m_is_head b_is_head
  have Gpw : Fn P w K mg base 9 "parts_within" (S_pw 8) := fn_mk F_parts_within (ok_parts_within B Gwhole Gname F_parts_within m_parts_within b_parts_within 8) m_parts_within b_parts_within
  have Gterm : Fn P w K mg base 10 "is_term" S_isterm := fn_mk F_is_term (ok_is_term B Gpw F_is_term) m_is_term b_is_term
  have Gpf : Fn P w K mg base 9 "parts_from" (S_pf 8) := fn_mk F_parts_from (ok_parts_from B Gwhole F_parts_from m_parts_from b_parts_from 8) m_parts_from b_parts_from
  have Gparts : Fn P w K mg base 10 "parts_of" S_parts := fn_mk F_parts_of (ok_parts_of Gpf F_parts_of) m_parts_of b_parts_of
  have Gblanks : Fn P w K mg base 11 "blanks" S_blanks := fn_mk F_blanks (ok_blanks B Gwhole Gparts F_blanks) m_blanks b_blanks
  have Grule : Fn P w K mg base 12 "is_rule" S_isrule := fn_mk F_is_rule (ok_is_rule B Gwhole Gterm Gblanks F_is_rule) m_is_rule b_is_rule
  have Mrtold : Me P w K mg base 1 (He.ga K "Rules") "told" (S_rtold (He.ga K "Rules")) := ⟨⟨_, fd_Rules_told, ["self"], ok_rtold B cR nR F_Rules_told, He.meth_ok (c.fact 72 (f := .meth "Rules" "told") rfl), b_Rules_told⟩, cR⟩
  have Gmade : Fn P w K mg base 3 "made_heads" (S_made (He.ga K "Rules")) := fn_mk F_made_heads (ok_made B Ghead Mrtold F_made_heads) m_made_heads b_made_heads
  have Gsides : Fn P w K mg base 11 "sides_of_calls" (S_sides (He.ga K "Rules")) := fn_mk F_sides_of_calls (ok_sides B Ghead Mrtold Gmade Gparts F_sides_of_calls) m_sides_of_calls b_sides_of_calls
  have Gled : FnO P w K mg base 1 "led_from" S_led := ⟨⟨_, fd_led_from, ["ways", "begin"], ok_led B F_led_from, m_led_from, F_led_from.kp, b_led_from⟩⟩
  have Gleads : FnO P w K mg base 12 "leads" (S_leads (He.ga K "Rules")) := ⟨⟨_, fd_leads, ["rules"], ok_leads B Ghead Gsides Gmade Gled F_leads, m_leads, F_leads.kp, b_leads⟩⟩
  have Gispart : Fn P w K mg base 11 "is_part" S_ispart := fn_mk F_is_part (ok_ispart B Gparts F_is_part) m_is_part b_is_part
  have Gischoice : Fn P w K mg base 3 "is_choice" S_ischoice := fn_mk F_is_choice (ok_ischoice B Gwhole Gishead F_is_choice) m_is_choice b_is_choice
  have Mctold : Me P w K mg base 1 (He.ga K "Calls") "told" (S_ctold (He.ga K "Calls")) := ⟨⟨_, fd_Calls_told, ["self"], ok_ctold B cC nC F_Calls_told, He.meth_ok (c.fact 68 (f := .meth "Calls" "told") rfl), b_Calls_told⟩, cC⟩
  have Mhasp : Me P w K mg base 3 (He.ga K "Calls") "has_place" (S_hasp (He.ga K "Calls")) := ⟨⟨_, fd_Calls_has_place, ["self", "term"], ok_hasp cC nC Ghead F_Calls_has_place, He.meth_ok (c.fact 69 (f := .meth "Calls" "has_place") rfl), b_Calls_has_place⟩, cC⟩
  have Mstands : Me P w K mg base 3 (He.ga K "Calls") "stands" (S_stands (He.ga K "Calls")) := ⟨⟨_, fd_Calls_stands, ["self", "term"], ok_stands cC nC Ghead F_Calls_stands, He.meth_ok (c.fact 70 (f := .meth "Calls" "stands") rfl), b_Calls_stands⟩, cC⟩
  have Mlets : Me P w K mg base 13 (He.ga K "Calls") "lets" (S_lets (He.ga K "Rules") (He.ga K "Calls")) := ⟨⟨_, fd_Calls_lets, ["self", "rules"], ok_lets B Ghead Gsides Gleads Gled Gispart Mhasp Mstands F_Calls_lets, He.meth_ok (c.fact 71 (f := .meth "Calls" "lets") rfl), b_Calls_lets⟩, cC⟩
  have Gchoices : Fn P w K mg base 1 "choices_of" S_choices := fn_mk F_choices_of (ok_choices B F_choices_of) m_choices_of b_choices_of
  have MR : MkI P w K mg base 13 "Rules" (He.ga K "Rules") (spR (He.ga K "Rules")) := ⟨⟨_, fd_Rules___init__, ["self", "rules"], He.mkr_ok (c.fact 74 (f := .mkr "Rules") rfl), ok_rinit B cR nR Grule F_Rules___init__, gRules, b_Rules___init__⟩⟩
  have MC : MkI P w K mg base 4 "Calls" (He.ga K "Calls") (spC (He.ga K "Calls")) := ⟨⟨_, fd_Calls___init__, ["self", "chosen"], He.mkr_ok (c.fact 73 (f := .mkr "Calls") rfl), ok_cinit B cC nC Gischoice F_Calls___init__, gCalls, b_Calls___init__⟩⟩
  have Gcallsof : FnE P w K mg base 14 "calls_of" (S_callsof (He.ga K "Rules") (He.ga K "Calls") (He.ga K "TooMany")) := ⟨⟨_, fd_calls_of, ["rules"], ok_callsof B T Gleads Gchoices MC Mlets F_calls_of, m_calls_of, F_calls_of.kp, b_calls_of⟩⟩
  have Glwhole : Fn P w K mg base 1 "_law_whole" S_whole := fn_mk F__law_whole (ok_lwhole B F__law_whole) m__law_whole b__law_whole
  have Gspread : Fn P w K mg base 1 "_law_spread" S_spread := fn_mk F__law_spread (ok_spread F__law_spread) m__law_spread b__law_spread
  have Gmixed : Fn P w K mg base 1 "_law_mixed" S_mixed := fn_mk F__law_mixed (ok_mixed F__law_mixed) m__law_mixed b__law_mixed
  have Gnames : Fn P w K mg base 1 "_law_names" S_names := fn_mk F__law_names (ok_names B F__law_names) m__law_names b__law_names
  have Gplace : Fn P w K mg base 1 "_law_place" S_place := fn_mk F__law_place (ok_place F__law_place) m__law_place b__law_place
  have Glcall : Fn P w K mg base 2 "_law_call" S_lcall := fn_mk F__law_call (ok_lcall B Glwhole Gmixed F__law_call) m__law_call b__law_call
  have Glrule : Fn P w K mg base 3 "_law_rule" S_lrule := fn_mk F__law_rule (ok_lrule B Gplace Gmixed Glcall F__law_rule) m__law_rule b__law_rule
  have Glhead : Fn P w K mg base 1 "_law_head" S_lhead := fn_mk F__law_head (ok_lhead B F__law_head) m__law_head b__law_head
  have Gheads : Fn P w K mg base 9 "_law_heads" (S_heads 8) := fn_mk F__law_heads (ok_heads B Glwhole Glhead F__law_heads m__law_heads b__law_heads 8) m__law_heads b__law_heads
  have Gringed : Fn P w K mg base 10 "_law_ringed" S_ringed := fn_mk F__law_ringed (ok_ringed B Glhead Gheads F__law_ringed) m__law_ringed b__law_ringed
  have Glchoices : Fn P w K mg base 1 "_law_choices" S_choices := fn_mk F__law_choices (ok_lchoices B F__law_choices) m__law_choices b__law_choices
  have Gright : Fn P w K mg base 15 "_law_right" S_right := fn_mk F__law_right (ok_right B iC gCalls gPaper x.kCC x.kCP MR MC Mlets Mctold Gcallsof Glchoices Gringed F__law_right) m__law_right b__law_right
  have Ganswer : Fn P w K mg base 15 "_law_answer" (S_answer (He.ga K "Rules") (He.ga K "Calls")) := fn_mk F__law_answer (ok_answer B eT gEndError gTooMany gNoPaper hex x.kTT x.kTN Gcallsof F__law_answer) m__law_answer b__law_answer
  have Gdown : Fn P w K mg base 1 "_law_down" S_down := fn_mk F__law_down (ok_down B F__law_down) m__law_down b__law_down
  have Gmany : Fn P w K mg base 16 "_law_many" S_many := fn_mk F__law_many (ok_many B iC gCalls x.kCC MR Mctold Gdown Ganswer F__law_many) m__law_many b__law_many
  exact (ok_law B Gspread Gnames Glrule Gright Gmany F_law).imp spLaw_le
end K53

set_option Elab.async false
set_option linter.all false
set_option maxRecDepth 100000
set_option maxHeartbeats 0
open PySem PySem.W PySem.Calls PyProof.Rows
theorem PySem.Challenge.cw_endwise_k53_whole_calls_found_holds : PySem.Challenge.rw_endwise_k53_whole_calls_found.Holds := by
  w_on; o_law
  refine HandSHeadRun.head_any (r := OpenLaw.row PySem.Challenge.rw_endwise_k53_whole_calls_found) (q := view (OpenLaw.row PySem.Challenge.rw_endwise_k53_whole_calls_found).prog [57]) (H := K53.hk) (ob := K53.ob) (M := 4000) (loose := K53.loose) (d := HandSHeadRun.topDef (OpenLaw.row PySem.Challenge.rw_endwise_k53_whole_calls_found).prog 57) (kwd := []) K53.ob_eq
    (by kernel_rfl) (fun s => by kernel_rfl) K53.run (by kernel_rfl) (by kernel_rfl) (by kernel_rfl) (by rfl) (by first | assumption | decide +kernel) (by decide +kernel) ⟨rfl, rfl, rfl, rfl, rfl, by decide +kernel⟩ ?hw ?hc
  case hw => w_witness2
  case hc =>
    refine L2.walk_ofE (l := PySem.Challenge.rw_endwise_k53_whole_calls_found) (n := 63) (k := 17) (x := "_law_script") (CX := L2.CX0) rfl (by decide) (by kernel_rfl) ⟨rfl, by decide, by decide⟩ ?F (fun _ _ _ _ z => z)
    intro w mg fa h Y G hmg0
    obtain ⟨K, KX, c⟩ := Y
    have hmg : mg ("law" : PySem.Str) = some (.ref fa) := by
      have e : (HandSHeadRun.topDef (OpenLaw.row PySem.Challenge.rw_endwise_k53_whole_calls_found).prog 57).name = ("law" : PySem.Str) := by kernel_rfl
      rw [← e]
      exact hmg0
    have c1 : K53.fx K = true := congrArg Prod.fst (show (K53.fx K, He.obsD K53.fa K53.fn K) = (true, He.valD K53.fn) from c)
    have c2 : He.SaysD K53.fa K53.fn K := congrArg Prod.snd (show (K53.fx K, He.obsD K53.fa K53.fn K) = (true, He.valD K53.fn) from c)
    obtain ⟨fd, hb, hF⟩ := K53.facts (P := (PySem.Challenge.rw_endwise_k53_whole_calls_found).prog) (w := w) KX G hmg (K53.fx_ok c1) c2
    exact ⟨K, fd, K53.spLaw K, KX, hb, fun H a ns hl _ hS => ⟨a, ns, rfl, Nat.le_trans hl (by decide), hS, fun _ => rfl⟩, hF⟩

