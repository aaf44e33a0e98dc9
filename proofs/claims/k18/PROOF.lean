import PyProof.Rows.All
import Wide.All
import OpenK.AllK
import Wide.FinOn
import HandS.ForMost
import HandS.Defaults
import HandS.HeadHook2
import KE.KStateDown
import Lean
import HandS.Head0
import HandS.Head1
import HandS.Head2
import HandS.HeadEnd
import HandS.HeadHook1
import HandS.DictComp
import HandS.SetKeys
import HandS.Style
import HandS.SortInts
import HandS.Replace
import HandS.SetBool
import HandS.Conv
import KE.KDictPairs
import KE.KDictSum
import HandS.Deep
import HandS.MakeKwOnly
import KE.GoesZip
import KE.GoesMore
import PySem.Challenge.RW_echoladder_k18_whole_equivalence
set_option Elab.async false
set_option linter.all false
set_option maxRecDepth 100000
namespace EL
open PySem PySem.Spec PyProof.Rows L2
/-! the text by places -/
def top (i : Nat) : Stmt := PySem.Challenge.pw_echoladder_k18_whole_equivalence.main.body.getD i (.Pass ⟨0, 0, 0, 0⟩)
abbrev sFinishOrder : Stmt := top 12
def dFinishOrder : He.DefD := ⟨("finish_order", none), "finish_order", "finish_order", defArgs sFinishOrder, defBody sFinishOrder, defScope sFinishOrder, [], []⟩
abbrev sStrongParts : Stmt := top 13
def dStrongParts : He.DefD := ⟨("strong_parts", none), "strong_parts", "strong_parts", defArgs sStrongParts, defBody sStrongParts, defScope sStrongParts, [], []⟩
abbrev sPathBetween : Stmt := top 14
def dPathBetween : He.DefD := ⟨("path_between", none), "path_between", "path_between", defArgs sPathBetween, defBody sPathBetween, defScope sPathBetween, [], []⟩
abbrev sPasses : Stmt := top 15
def dPasses : He.DefD := ⟨("passes", none), "passes", "passes", defArgs sPasses, defBody sPasses, defScope sPasses, [], []⟩
abbrev sClosedWalk : Stmt := top 16
def dClosedWalk : He.DefD := ⟨("closed_walk", none), "closed_walk", "closed_walk", defArgs sClosedWalk, defBody sClosedWalk, defScope sClosedWalk, [], []⟩
abbrev sCycleThrough : Stmt := top 17
def dCycleThrough : He.DefD := ⟨("cycle_through", none), "cycle_through", "cycle_through", defArgs sCycleThrough, defBody sCycleThrough, defScope sCycleThrough, [], []⟩
abbrev sBounded : Stmt := top 18
def dBounded : He.DefD := ⟨("bounded", none), "bounded", "bounded", defArgs sBounded, defBody sBounded, defScope sBounded, [], []⟩
abbrev sCycleWith : Stmt := top 19
def dCycleWith : He.DefD := ⟨("cycle_with", none), "cycle_with", "cycle_with", defArgs sCycleWith, defBody sCycleWith, defScope sCycleWith, [], []⟩
abbrev sIsAlphabet : Stmt := top 25
def dIsAlphabet : He.DefD := ⟨("is_alphabet", none), "is_alphabet", "is_alphabet", defArgs sIsAlphabet, defBody sIsAlphabet, defScope sIsAlphabet, [], []⟩
abbrev sNeedAlphabet : Stmt := top 26
def dNeedAlphabet : He.DefD := ⟨("need_alphabet", none), "need_alphabet", "need_alphabet", defArgs sNeedAlphabet, defBody sNeedAlphabet, defScope sNeedAlphabet, [], []⟩
abbrev sNeedRow : Stmt := top 27
def dNeedRow : He.DefD := ⟨("need_row", none), "need_row", "need_row", defArgs sNeedRow, defBody sNeedRow, defScope sNeedRow, [], []⟩
abbrev sIsState : Stmt := top 28
def dIsState : He.DefD := ⟨("is_state", none), "is_state", "is_state", defArgs sIsState, defBody sIsState, defScope sIsState, [], []⟩
abbrev sMInit : Stmt := inClass (top 29) 0
def dMInit : He.DefD := ⟨("Machine", some "__init__"), "__init__", "Machine.__init__", defArgs sMInit, defBody sMInit, defScope sMInit, [], [("start", .int 0)]⟩
abbrev sMLetters : Stmt := inClass (top 29) 4
def dMLetters : He.DefD := ⟨("Machine", some "letters"), "letters", "Machine.letters", defArgs sMLetters, defBody sMLetters, defScope sMLetters, [], []⟩
abbrev sMStates : Stmt := inClass (top 29) 5
def dMStates : He.DefD := ⟨("Machine", some "states"), "states", "Machine.states", defArgs sMStates, defBody sMStates, defScope sMStates, [], []⟩
abbrev sMStart : Stmt := inClass (top 29) 6
def dMStart : He.DefD := ⟨("Machine", some "start"), "start", "Machine.start", defArgs sMStart, defBody sMStart, defScope sMStart, [], []⟩
abbrev sMStep : Stmt := inClass (top 29) 7
def dMStep : He.DefD := ⟨("Machine", some "step"), "step", "Machine.step", defArgs sMStep, defBody sMStep, defScope sMStep, [], []⟩
abbrev sMReachable : Stmt := inClass (top 29) 8
def dMReachable : He.DefD := ⟨("Machine", some "reachable"), "reachable", "Machine.reachable", defArgs sMReachable, defBody sMReachable, defScope sMReachable, [], []⟩
abbrev sMAccepts : Stmt := inClass (top 29) 9
def dMAccepts : He.DefD := ⟨("Machine", some "accepts"), "accepts", "Machine.accepts", defArgs sMAccepts, defBody sMAccepts, defScope sMAccepts, [], []⟩
abbrev sShortestCycle : Stmt := top 31
def dShortestCycle : He.DefD := ⟨("shortest_cycle", none), "shortest_cycle", "shortest_cycle", defArgs sShortestCycle, defBody sShortestCycle, defScope sShortestCycle, [], []⟩
abbrev sShortened : Stmt := top 32
def dShortened : He.DefD := ⟨("shortened", none), "shortened", "shortened", defArgs sShortened, defBody sShortened, defScope sShortened, [], []⟩
abbrev sNeedSameLetters : Stmt := top 34
def dNeedSameLetters : He.DefD := ⟨("need_same_letters", none), "need_same_letters", "need_same_letters", defArgs sNeedSameLetters, defBody sNeedSameLetters, defScope sNeedSameLetters, [], []⟩
abbrev sShifted : Stmt := top 35
def dShifted : He.DefD := ⟨("shifted", none), "shifted", "shifted", defArgs sShifted, defBody sShifted, defScope sShifted, [], []⟩
abbrev sComplement : Stmt := top 36
def dComplement : He.DefD := ⟨("complement", none), "complement", "complement", defArgs sComplement, defBody sComplement, defScope sComplement, [], []⟩
abbrev sBehaviours : Stmt := top 37
def dBehaviours : He.DefD := ⟨("behaviours", none), "behaviours", "behaviours", defArgs sBehaviours, defBody sBehaviours, defScope sBehaviours, [], []⟩
abbrev sMinimized : Stmt := top 38
def dMinimized : He.DefD := ⟨("minimized", none), "minimized", "minimized", defArgs sMinimized, defBody sMinimized, defScope sMinimized, [], []⟩
abbrev sJointEdges : Stmt := top 39
def dJointEdges : He.DefD := ⟨("joint_edges", none), "joint_edges", "joint_edges", defArgs sJointEdges, defBody sJointEdges, defScope sJointEdges, [], []⟩
abbrev sRowAlong : Stmt := top 40
def dRowAlong : He.DefD := ⟨("row_along", none), "row_along", "row_along", defArgs sRowAlong, defBody sRowAlong, defScope sRowAlong, [], []⟩
abbrev sDifference : Stmt := top 41
def dDifference : He.DefD := ⟨("difference", none), "difference", "difference", defArgs sDifference, defBody sDifference, defScope sDifference, [], []⟩
abbrev sMachineEdges : Stmt := top 43
def dMachineEdges : He.DefD := ⟨("machine_edges", none), "machine_edges", "machine_edges", defArgs sMachineEdges, defBody sMachineEdges, defScope sMachineEdges, [], []⟩
abbrev sGreatestIn : Stmt := top 44
def dGreatestIn : He.DefD := ⟨("greatest_in", none), "greatest_in", "greatest_in", defArgs sGreatestIn, defBody sGreatestIn, defScope sGreatestIn, [], []⟩
abbrev sPartsOf : Stmt := top 45
def dPartsOf : He.DefD := ⟨("parts_of", none), "parts_of", "parts_of", defArgs sPartsOf, defBody sPartsOf, defScope sPartsOf, [], []⟩
abbrev sBelow : Stmt := top 46
def dBelow : He.DefD := ⟨("below", none), "below", "below", defArgs sBelow, defBody sBelow, defScope sBelow, [], []⟩
abbrev sRaisedLength : Stmt := top 47
def dRaisedLength : He.DefD := ⟨("raised_length", none), "raised_length", "raised_length", defArgs sRaisedLength, defBody sRaisedLength, defScope sRaisedLength, [], []⟩
abbrev sLongestIn : Stmt := top 48
def dLongestIn : He.DefD := ⟨("longest_in", none), "longest_in", "longest_in", defArgs sLongestIn, defBody sLongestIn, defScope sLongestIn, [], []⟩
abbrev sLongest : Stmt := top 49
def dLongest : He.DefD := ⟨("longest", none), "longest", "longest", defArgs sLongest, defBody sLongest, defScope sLongest, [], []⟩
abbrev sChainLength : Stmt := top 50
def dChainLength : He.DefD := ⟨("chain_length", none), "chain_length", "chain_length", defArgs sChainLength, defBody sChainLength, defScope sChainLength, [], [("even", .bl true)]⟩
abbrev sFewestPriorities : Stmt := top 51
def dFewestPriorities : He.DefD := ⟨("fewest_priorities", none), "fewest_priorities", "fewest_priorities", defArgs sFewestPriorities, defBody sFewestPriorities, defScope sFewestPriorities, [], []⟩
abbrev sLabelled : Stmt := top 52
def dLabelled : He.DefD := ⟨("labelled", none), "labelled", "labelled", defArgs sLabelled, defBody sLabelled, defScope sLabelled, [], []⟩
abbrev sRelabel : Stmt := top 53
def dRelabel : He.DefD := ⟨("relabel", none), "relabel", "relabel", defArgs sRelabel, defBody sRelabel, defScope sRelabel, [], []⟩
abbrev sLawBag : Stmt := top 55
def dLawBag : He.DefD := ⟨("_law_bag", none), "_law_bag", "_law_bag", defArgs sLawBag, defBody sLawBag, defScope sLawBag, [], []⟩
abbrev sLawPull : Stmt := top 56
def dLawPull : He.DefD := ⟨("_law_pull", none), "_law_pull", "_law_pull", defArgs sLawPull, defBody sLawPull, defScope sLawPull, [], []⟩
abbrev sLawOf : Stmt := top 57
def dLawOf : He.DefD := ⟨("_law_of", none), "_law_of", "_law_of", defArgs sLawOf, defBody sLawOf, defScope sLawOf, [], []⟩
abbrev sLawLetters : Stmt := top 58
def dLawLetters : He.DefD := ⟨("_law_letters", none), "_law_letters", "_law_letters", defArgs sLawLetters, defBody sLawLetters, defScope sLawLetters, [], []⟩
abbrev sLawMade : Stmt := top 59
def dLawMade : He.DefD := ⟨("_law_made", none), "_law_made", "_law_made", defArgs sLawMade, defBody sLawMade, defScope sLawMade, [], []⟩
abbrev sLawRaw : Stmt := top 60
def dLawRaw : He.DefD := ⟨("_law_raw", none), "_law_raw", "_law_raw", defArgs sLawRaw, defBody sLawRaw, defScope sLawRaw, [], []⟩
abbrev sLawWord : Stmt := top 61
def dLawWord : He.DefD := ⟨("_law_word", none), "_law_word", "_law_word", defArgs sLawWord, defBody sLawWord, defScope sLawWord, [], []⟩
abbrev sLawRow : Stmt := top 62
def dLawRow : He.DefD := ⟨("_law_row", none), "_law_row", "_law_row", defArgs sLawRow, defBody sLawRow, defScope sLawRow, [], []⟩
abbrev sLaw : Stmt := top 63
def dLaw : He.DefD := ⟨("law", none), "law", "law", defArgs sLaw, defBody sLaw, defScope sLaw, [], []⟩
def fn : List He.DefD := [dFinishOrder, dStrongParts, dPathBetween, dPasses, dClosedWalk, dCycleThrough, dBounded, dCycleWith, dIsAlphabet, dNeedAlphabet, dNeedRow, dIsState, dMInit, dMLetters, dMStates, dMStart, dMStep, dMReachable, dMAccepts, dShortestCycle, dShortened, dNeedSameLetters, dShifted, dComplement, dBehaviours, dMinimized, dJointEdges, dRowAlong, dDifference, dMachineEdges, dGreatestIn, dPartsOf, dBelow, dRaisedLength, dLongestIn, dLongest, dChainLength, dFewestPriorities, dLabelled, dRelabel, dLawBag, dLawPull, dLawOf, dLawLetters, dLawMade, dLawRaw, dLawWord, dLawRow, dLaw]
def fa : List He.Fa := [
  .glo "finish_order",
  .glo "strong_parts",
  .glo "path_between",
  .glo "passes",
  .glo "closed_walk",
  .glo "cycle_through",
  .glo "bounded",
  .glo "cycle_with",
  .glo "is_alphabet",
  .glo "need_alphabet",
  .glo "need_row",
  .glo "is_state",
  .glo "shortest_cycle",
  .glo "shortened",
  .glo "need_same_letters",
  .glo "shifted",
  .glo "complement",
  .glo "behaviours",
  .glo "minimized",
  .glo "joint_edges",
  .glo "row_along",
  .glo "difference",
  .glo "machine_edges",
  .glo "greatest_in",
  .glo "parts_of",
  .glo "below",
  .glo "raised_length",
  .glo "longest_in",
  .glo "longest",
  .glo "chain_length",
  .glo "fewest_priorities",
  .glo "labelled",
  .glo "relabel",
  .glo "_law_bag",
  .glo "_law_pull",
  .glo "_law_of",
  .glo "_law_letters",
  .glo "_law_made",
  .glo "_law_raw",
  .glo "_law_word",
  .glo "_law_row",
  .glo "law",
  .glo "Machine",
  .cls "Machine",
  .mkr "Machine",
  .noat "Machine" "alphabet",
  .noat "Machine" "table",
  .noat "Machine" "first",
  .meth "Machine" "letters",
  .meth "Machine" "states",
  .meth "Machine" "start",
  .meth "Machine" "step",
  .meth "Machine" "reachable",
  .meth "Machine" "accepts",
  .int "MAX_LETTERS" 3,
  .int "MAX_STATES" 5,
  .int "MAX_PRIORITY" 3,
  .str "LOWERCASE" "abcdefghijklmnopqrstuvwxyz",
  .free "len",
  .free "all",
  .free "any",
  .free "range",
  .free "enumerate",
  .free "zip",
  .free "sorted",
  .free "max",
  .free "int",
  .free "dict",
  .free "tuple",
  .free "list"]
end EL

set_option Elab.async false
set_option linter.all false
set_option maxRecDepth 100000
set_option maxHeartbeats 0
namespace EL
open PySem PySem.Spec PyProof.Rows L2
def loose1 : List Str := ["EchoError", "NotFound", "InvalidLetters", "InvalidMachine", "InvalidRow", "LetterMismatch", "LimitExceeded", "TooManyPriorities", "OutOfRange", "UnknownLetter", "finish_order", "strong_parts", "path_between", "passes", "closed_walk", "cycle_through", "bounded", "cycle_with", "LOWERCASE", "MAX_LETTERS", "MAX_STATES", "MAX_PRIORITY", "is_alphabet", "need_alphabet", "need_row", "is_state", "Machine", "shortest_cycle", "shortened", "need_same_letters"]
def loose2 : List Str := ["shifted", "complement", "behaviours", "minimized", "joint_edges", "row_along", "difference", "machine_edges", "greatest_in", "parts_of", "below", "raised_length", "longest_in", "longest", "chain_length", "fewest_priorities", "labelled", "relabel", "_law_bag", "_law_pull", "_law_of", "_law_letters", "_law_made", "_law_raw", "_law_word", "_law_row"]
def loose : List Str := loose1 ++ loose2
abbrev R : PySem.W.OpenRow := PySem.W.OpenLaw.row PySem.Challenge.rw_echoladder_k18_whole_equivalence
abbrev hk : PySem.W.Hook := He.hookD 4 fa fn
def ob (s : PySem.W.SharedT) : He.AlD := He.obsDG 4 fa fn (HandSHeadRun.getT s)
theorem ob_eq (s : PySem.W.SharedT) : ob s = hk.obs s.abs := He.obsDG_eq (HandSHeadRun.getT_eq s)
theorem runHead (w : World) : HandSHeadRun.RunEq R (PySem.W.view R.prog [63]) hk ob 9000 loose w := by
  intro os
  kernel_rfl
end EL

set_option Elab.async false
set_option linter.all false
set_option maxRecDepth 100000
set_option maxHeartbeats 1000000
namespace EL
open PySem PySem.Spec PyProof.Rows L2

/-! ### growing heaps: F what is frozen, H all -/
structure Gr (F H F' H' : Hp) : Prop where
  ex : Same H H'
  fx : Same F F'
  nw : ∀ a o, F a = none → F' a = some o → H' a = some o ∧ (H a = none ∨ ∃ xs, o = .tup xs)
section
variable {F H F1 H1 F2 H2 : Hp} {p : Addr} {o : HO}
theorem Gr.refl : Gr F H F H := ⟨Same.refl _, Same.refl _, fun a o h1 h2 => by rw [h1] at h2; cases h2⟩
theorem Gr.trans (a : Gr F H F1 H1) (b : Gr F1 H1 F2 H2) : Gr F H F2 H2 := by
  refine ⟨a.ex.trans b.ex, a.fx.trans b.fx, fun x o h1 h2 => ?_⟩
  cases q : F1 x with
  | none =>
    obtain ⟨s, n⟩ := b.nw x o q h2
    exact ⟨s, n.imp a.ex.free id⟩
  | some u =>
    obtain ⟨s, n⟩ := a.nw x u h1 q
    have e := b.fx x u q
    rw [h2] at e
    cases e
    exact ⟨b.ex x _ s, n⟩
theorem same_new {p : Addr} {o : HO} (hp : H p = none) : Same H (upd H p o) := fun b u e => by
  rw [upd_ne (ne_of_none e hp)]
  exact e
theorem Gr.new (hp : H p = none) : Gr F H F (upd H p o) := ⟨same_new hp, Same.refl _, fun a o h1 h2 => by rw [h1] at h2; cases h2⟩
theorem Gr.newF (hp : H p = none) (fp : F p = none) : Gr F H (upd F p o) (upd H p o) := by
  refine ⟨same_new hp, same_new fp, fun a u h1 h2 => ?_⟩
  by_cases e : a = p
  · subst e
    rw [upd_same] at h2
    cases h2
    exact ⟨upd_same, .inl hp⟩
  · rw [upd_ne e, h1] at h2
    cases h2
/-- a tuple that stands may be frozen at any time -/
theorem Gr.tup {q : Addr} {xs : List V} (h : H q = some (.tup xs)) (f : F q = none ∨ F q = some (.tup xs)) : ∃ F', Gr F H F' H ∧ F' q = some (.tup xs) := by
  rcases f with f | f
  · refine ⟨upd F q (.tup xs), ⟨Same.refl _, same_new f, fun a u h1 h2 => ?_⟩, upd_same⟩
    by_cases e : a = q
    · subst e
      rw [upd_same] at h2
      cases h2
      exact ⟨h, .inr ⟨_, rfl⟩⟩
    · rw [upd_ne e, h1] at h2
      cases h2
  · exact ⟨F, Gr.refl, f⟩
def isDct : HO → Bool
  | .dK _ => true
  | .dT _ => true
  | _ => false
def Sub (F H : Hp) : Prop := ∀ a o, F a = some o → H a = some o ∨ (isDct o = true ∧ ∃ ob, H a = some (.frz ob o))
theorem Sub.of (s : Same F H) : Sub F H := fun a o e => .inl (s a o e)
theorem Sub.gr (s : Sub F H) (g : Gr F H F1 H1) : Sub F1 H1 := fun a o e => by
  cases q : F a with
  | none => exact .inl (g.nw a o q e).1
  | some u =>
    have e2 := g.fx a u q
    rw [e] at e2
    cases e2
    rcases s a _ q with h | ⟨h, ob, h2⟩
    · exact .inl (g.ex _ _ h)
    · exact .inr ⟨h, ob, g.ex _ _ h2⟩
theorem Gr.same (s : Same F H) (g : Gr F H F1 H1) : Same F1 H1 := fun a o e => by
  cases q : F a with
  | none => exact (g.nw a o q e).1
  | some u =>
    have e2 := g.fx a u q
    rw [e] at e2
    cases e2
    exact g.ex _ _ (s _ _ q)
theorem Sub.lst {a : Addr} {xs : List V} (s : Sub F H) (h : F a = some (.lst xs)) : H a = some (.lst xs) := (s _ _ h).elim id fun z => by cases z.1
theorem Sub.tup {a : Addr} {xs : List V} (s : Sub F H) (h : F a = some (.tup xs)) : H a = some (.tup xs) := (s _ _ h).elim id fun z => by cases z.1
theorem Sub.ins {a C dx : Addr} {fs : List (Str × V)} (s : Sub F H) (h : F a = some (.ins C dx fs)) : H a = some (.ins C dx fs) := (s _ _ h).elim id fun z => by cases z.1
theorem Sub.rd {a : Addr} {o : HO} (s : Sub F H) (h : F a = some o) : Rd H a o := (s _ _ h).imp id fun z => z.2
theorem Sub.free {a : Addr} (s : Sub F H) (h : H a = none) : F a = none := by
  cases q : F a with
  | none => rfl
  | some o =>
    rcases s a o q with e | ⟨_, ob, e⟩
    · rw [h] at e; cases e
    · rw [h] at e; cases e
def notTup : HO → Bool
  | .tup _ => false
  | _ => true
theorem Gr.none (g : Gr F H F1 H1) {a : Addr} {o : HO} (h : F a = none) (e : H a = some o) (nt : notTup o = true) : F1 a = none := by
  cases q : F1 a with
  | none => rfl
  | some u =>
    obtain ⟨z1, z2⟩ := g.nw a u h q
    have z3 := g.ex a o e
    rw [z1] at z3
    cases z3
    rcases z2 with z | ⟨xs, rfl⟩
    · rw [e] at z
      cases z
    · cases nt
end

/-! ### what a value is: Pr -/
abbrev Pr := Hp → V → Prop
class Mn (P : Pr) : Prop where
  mn : ∀ {F F' : Hp} {v : V}, Same F F' → P F v → P F' v
theorem Mn.gr {P : Pr} {F H F1 H1 : Hp} {v : V} (m : Mn P) (g : Gr F H F1 H1) (h : P F v) : P F1 v := m.mn g.fx h
def isV (v0 : V) : Pr := fun _ v => v = v0
instance {v : V} : Mn (isV v) := ⟨fun _ h => h⟩
inductive PrL (F : Hp) : List Pr → List V → Prop
  | nil : PrL F [] []
  | cons {P : Pr} {Ps : List Pr} {v : V} {vs : List V} : P F v → PrL F Ps vs → PrL F (P :: Ps) (v :: vs)
class MnL (Ps : List Pr) : Prop where
  mn : ∀ {F F' : Hp} {vs : List V}, Same F F' → PrL F Ps vs → PrL F' Ps vs
instance : MnL [] := ⟨fun _ h => by cases h; exact .nil⟩
instance {P : Pr} {Ps : List Pr} [m : Mn P] [ms : MnL Ps] : MnL (P :: Ps) := ⟨fun s h => by
  cases h with
  | cons h t => exact .cons (m.mn s h) (ms.mn s t)⟩
theorem mnl_map {α : Type} {f : α → Pr} (h : ∀ x, Mn (f x)) : ∀ xs : List α, MnL (xs.map f)
  | [] => ⟨fun _ h => by cases h; exact .nil⟩
  | x :: xs => ⟨fun s q => by
    cases q with
    | cons q t => exact .cons ((h x).mn s q) ((mnl_map h xs).mn s t)⟩
instance {α : Type} {f : α → Pr} [h : ∀ x, Mn (f x)] {xs : List α} : MnL (xs.map f) := mnl_map h xs
section
variable {F : Hp} {Ps Qs : List Pr} {vs ws : List V}
theorem PrL.length (h : PrL F Ps vs) : vs.length = Ps.length := by
  induction h with
  | nil => rfl
  | cons _ _ ih => rw [List.length_cons, List.length_cons, ih]
theorem PrL.append (h : PrL F Ps vs) (k : PrL F Qs ws) : PrL F (Ps ++ Qs) (vs ++ ws) := by
  induction h with
  | nil => exact k
  | cons a _ ih => exact .cons a ih
theorem PrL.one {P : Pr} {v : V} (h : P F v) : PrL F [P] [v] := .cons h .nil
theorem PrL.get (h : PrL F Ps vs) {i : Nat} {P : Pr} (e : Ps[i]? = some P) : ∃ v, vs[i]? = some v ∧ P F v := by
  induction h generalizing i with
  | nil => simp at e
  | cons a _ ih =>
    cases i with
    | zero => simp at e; subst e; exact ⟨_, rfl, a⟩
    | succ i => simpa using ih (by simpa using e)
theorem PrL.getV (h : PrL F Ps vs) {i : Nat} {v : V} (e : vs[i]? = some v) : ∃ P, Ps[i]? = some P ∧ P F v := by
  induction h generalizing i with
  | nil => simp at e
  | cons a _ ih =>
    cases i with
    | zero => simp at e; subst e; exact ⟨_, rfl, a⟩
    | succ i => simpa using ih (by simpa using e)
theorem PrL.mapV {α : Type} {f : α → Pr} {xs : List α} (h : PrL F (xs.map f) vs) {i : Nat} {v : V} (e : vs[i]? = some v) : ∃ x, xs[i]? = some x ∧ f x F v := by
  obtain ⟨P, h1, h2⟩ := h.getV e
  rw [List.getElem?_map] at h1
  cases q : xs[i]? with
  | none => rw [q] at h1; cases h1
  | some x => rw [q] at h1; cases h1; exact ⟨x, rfl, h2⟩
theorem PrL.set (h : PrL F Ps vs) {i : Nat} {P : Pr} {v : V} (hp : P F v) : PrL F (Ps.set i P) (vs.set i v) := by
  induction h generalizing i with
  | nil => exact .nil
  | cons a t ih =>
    cases i with
    | zero => exact .cons hp t
    | succ i => exact .cons a ih
theorem PrL.eraseIdx (h : PrL F Ps vs) {i : Nat} : PrL F (Ps.eraseIdx i) (vs.eraseIdx i) := by
  induction h generalizing i with
  | nil => exact .nil
  | cons a t ih =>
    cases i with
    | zero => exact t
    | succ i => exact .cons a ih
theorem PrL.dropLast (h : PrL F Ps vs) : PrL F Ps.dropLast vs.dropLast := by
  induction h with
  | nil => exact .nil
  | @cons P Ps v vs a t ih =>
    cases t with
    | nil => exact .nil
    | cons b t => exact .cons a ih
theorem PrL.reverse (h : PrL F Ps vs) : PrL F Ps.reverse vs.reverse := by
  induction h with
  | nil => exact .nil
  | cons a _ ih => rw [List.reverse_cons, List.reverse_cons]; exact ih.append (.one a)
theorem PrL.drop (h : PrL F Ps vs) (n : Nat) : PrL F (Ps.drop n) (vs.drop n) := by
  induction h generalizing n with
  | nil => simp; exact .nil
  | cons a t ih =>
    cases n with
    | zero => exact .cons a t
    | succ n => simpa using ih n
theorem PrL.take (h : PrL F Ps vs) (n : Nat) : PrL F (Ps.take n) (vs.take n) := by
  induction h generalizing n with
  | nil => simp; exact .nil
  | cons a t ih =>
    cases n with
    | zero => exact .nil
    | succ n => simpa using PrL.cons a (ih n)
theorem PrL.isVs {ws : List V} (h : PrL F (ws.map isV) vs) : vs = ws := by
  induction ws generalizing vs with
  | nil => cases h; rfl
  | cons w ws ih =>
    cases h with
    | cons a t => rw [show _ = w from a, ih t]
theorem PrL.of_isV : ∀ ws : List V, PrL F (ws.map isV) ws
  | [] => .nil
  | w :: ws => .cons rfl (PrL.of_isV ws)
theorem PrL.imp {α : Type} {f g : α → Pr} (h : ∀ x v, f x F v → g x F v) : ∀ {xs : List α} {vs : List V}, PrL F (xs.map f) vs → PrL F (xs.map g) vs
  | [], _, q => by cases q; exact .nil
  | x :: xs, _, q => by
    cases q with
    | cons a t => exact .cons (h _ _ a) (PrL.imp h t)
end
def isTup (Ps : List Pr) : Pr := fun F v => ∃ a vs, v = .ref a ∧ F a = some (.tup vs) ∧ PrL F Ps vs
def isLst (Ps : List Pr) : Pr := fun F v => ∃ a vs, v = .ref a ∧ F a = some (.lst vs) ∧ PrL F Ps vs
instance {Ps : List Pr} [m : MnL Ps] : Mn (isTup Ps) := ⟨fun s ⟨a, vs, e, h, t⟩ => ⟨a, vs, e, s _ _ h, m.mn s t⟩⟩
instance {Ps : List Pr} [m : MnL Ps] : Mn (isLst Ps) := ⟨fun s ⟨a, vs, e, h, t⟩ => ⟨a, vs, e, s _ _ h, m.mn s t⟩⟩
/-- some x with C x -/
def isEx {α : Type} (P : α → Pr) (C : α → Prop) : Pr := fun F v => ∃ x, C x ∧ P x F v
instance {α : Type} {P : α → Pr} {C : α → Prop} [m : ∀ x, Mn (P x)] : Mn (isEx P C) := ⟨fun s ⟨x, c, h⟩ => ⟨x, c, (m x).mn s h⟩⟩

/-! ### dicts by their keys -/
def luk {N α : Type} [DecidableEq N] : List (N × α) → N → Option α
  | [], _ => none
  | p :: r, n => if p.1 = n then some p.2 else luk r n
/-- in its place, or at the end -/
def putA {N α : Type} [DecidableEq N] : List (N × α) → N → α → List (N × α)
  | [], n, a => [(n, a)]
  | p :: r, n, a => if p.1 = n then (p.1, a) :: r else p :: putA r n a
section
variable {N α : Type} [DecidableEq N]
theorem luk_put : ∀ (l : List (N × α)) (n m : N) (a : α), luk (putA l n a) m = if n = m then some a else luk l m
  | [], n, m, a => rfl
  | p :: r, n, m, a => by
    unfold putA
    by_cases e : p.1 = n
    · rw [if_pos e]
      show (if p.1 = m then some a else luk r m) = if n = m then some a else if p.1 = m then some p.2 else luk r m
      by_cases e2 : n = m
      · rw [if_pos (e.trans e2), if_pos e2]
      · rw [if_neg e2, if_neg (fun z => e2 (e.symm.trans z)), if_neg (fun z => e2 (e.symm.trans z))]
    · rw [if_neg e]
      show (if p.1 = m then some p.2 else luk (putA r n a) m) = if n = m then some a else if p.1 = m then some p.2 else luk r m
      rw [luk_put r n m a]
      by_cases e2 : p.1 = m
      · rw [if_pos e2, if_pos e2, if_neg (fun z => e (e2.trans z.symm))]
      · rw [if_neg e2, if_neg e2]
theorem put_new : ∀ {l : List (N × α)} {n : N} (a : α), luk l n = none → putA l n a = l ++ [(n, a)]
  | [], _, _, _ => rfl
  | p :: r, n, a, h => by
    unfold luk at h
    unfold putA
    by_cases e : p.1 = n
    · rw [if_pos e] at h; cases h
    · rw [if_neg e] at h ⊢
      rw [put_new a h]
      rfl
theorem luk_mem : ∀ {l : List (N × α)} {n : N} {a : α}, luk l n = some a → (n, a) ∈ l
  | p :: r, n, a, h => by
    unfold luk at h
    by_cases e : p.1 = n
    · rw [if_pos e] at h; cases h; rw [← e]; exact List.mem_cons_self
    · rw [if_neg e] at h; exact List.mem_cons_of_mem _ (luk_mem h)
theorem luk_key {l : List (N × α)} {n : N} {a : α} (h : luk l n = some a) : n ∈ l.map (·.1) := List.mem_map.mpr ⟨_, luk_mem h, rfl⟩
theorem luk_none : ∀ {l : List (N × α)} {n : N}, luk l n = none ↔ n ∉ l.map (·.1)
  | [], n => by simp [luk]
  | p :: r, n => by
    unfold luk
    by_cases e : p.1 = n
    · rw [if_pos e]; simp [e]
    · rw [if_neg e, luk_none (l := r)]
      simp only [List.map_cons, List.mem_cons, not_or]
      exact ⟨fun h => ⟨fun z => e z.symm, h⟩, fun h => h.2⟩
theorem luk_some {l : List (N × α)} {n : N} (h : n ∈ l.map (·.1)) : ∃ a, luk l n = some a := by
  cases q : luk l n with
  | none => exact absurd h (luk_none.mp q)
  | some a => exact ⟨a, rfl⟩
theorem luk_at : ∀ {l : List (N × α)} {i : Nat} {n : N} {a : α}, (l.map (·.1)).Nodup → l[i]? = some (n, a) → luk l n = some a
  | p :: r, 0, n, a, _, h => by
    simp at h; subst h; unfold luk; rw [if_pos rfl]
  | p :: r, i + 1, n, a, hn, h => by
    have h' : r[i]? = some (n, a) := by simpa using h
    obtain ⟨h1, h2⟩ := List.nodup_cons.mp (show (p.1 :: r.map (·.1)).Nodup from hn)
    unfold luk
    rw [if_neg (fun z => h1 (by rw [z]; exact List.mem_map.mpr ⟨_, List.mem_of_getElem? h', rfl⟩))]
    exact luk_at h2 h'
theorem luk_of_mem {l : List (N × α)} {n : N} {a : α} (hn : (l.map (·.1)).Nodup) (h : (n, a) ∈ l) : luk l n = some a := by
  obtain ⟨i, hi⟩ := List.getElem?_of_mem h
  exact luk_at hn hi
theorem put_keys_old : ∀ {l : List (N × α)} {n : N} (a : α), n ∈ l.map (·.1) → (putA l n a).map (·.1) = l.map (·.1)
  | p :: r, n, a, h => by
    unfold putA
    by_cases e : p.1 = n
    · rw [if_pos e]; rfl
    · rw [if_neg e]
      have h' : n ∈ r.map (·.1) := (List.mem_cons.mp (show n ∈ p.1 :: r.map (·.1) from h)).resolve_left fun z => e z.symm
      show p.1 :: (putA r n a).map (·.1) = p.1 :: r.map (·.1)
      rw [put_keys_old a h']
theorem put_keys_new {l : List (N × α)} {n : N} (a : α) (h : n ∉ l.map (·.1)) : (putA l n a).map (·.1) = l.map (·.1) ++ [n] := by
  rw [put_new a (luk_none.mpr h), List.map_append]
  rfl
theorem put_nodup {l : List (N × α)} {n : N} {a : α} (hn : (l.map (·.1)).Nodup) : ((putA l n a).map (·.1)).Nodup := by
  by_cases h : n ∈ l.map (·.1)
  · rw [put_keys_old a h]; exact hn
  · rw [put_keys_new a h]; exact nd_snoc hn h
theorem put_len {l : List (N × α)} {n : N} {a : α} : (putA l n a).length ≤ l.length + 1 := by
  have e : (putA l n a).length = ((putA l n a).map (·.1)).length := by rw [List.length_map]
  by_cases h : n ∈ l.map (·.1)
  · rw [e, put_keys_old a h, List.length_map]; omega
  · rw [e, put_keys_new a h, List.length_append, List.length_map]; simp
theorem put_map {β : Type} (f : α → β) : ∀ (l : List (N × α)) (n : N) (a : α), (putA l n a).map (fun p => (p.1, f p.2)) = putA (l.map fun p => (p.1, f p.2)) n (f a)
  | [], _, _ => rfl
  | p :: r, n, a => by
    unfold putA
    by_cases e : p.1 = n
    · rw [if_pos e]; show _ = if p.1 = n then _ else _; rw [if_pos e]; rfl
    · rw [if_neg e]; show _ = if p.1 = n then _ else _; rw [if_neg e, ← put_map f r n a]; rfl
theorem luk_map {β : Type} (f : α → β) : ∀ (l : List (N × α)) (n : N), luk (l.map fun p => (p.1, f p.2)) n = (luk l n).map f
  | [], _ => rfl
  | p :: r, n => by
    show (if p.1 = n then some (f p.2) else luk (r.map fun p => (p.1, f p.2)) n) = (if p.1 = n then some p.2 else luk r n).map f
    by_cases e : p.1 = n
    · rw [if_pos e, if_pos e]; rfl
    · rw [if_neg e, if_neg e, luk_map f r n]
end

/-- the library's tables are these -/
theorem valV_luk {κ : Type} [DecidableEq κ] : ∀ (kvs : List (κ × V)) (k : κ), valV kvs k = luk kvs k
  | [], _ => rfl
  | p :: r, k => by
    unfold luk
    by_cases e : p.1 = k
    · rw [if_pos e, valV_pos e]
    · rw [if_neg e, valV_neg e, valV_luk r k]
theorem map_putK_id {κ : Type} [DecidableEq κ] {k : κ} {v : V} : ∀ {kvs : List (κ × V)}, k ∉ kvs.map (·.1) → kvs.map (fun kv => if kv.1 = k then (kv.1, v) else kv) = kvs
  | [], _ => rfl
  | p :: r, h => by
    have h1 : ¬ p.1 = k := fun z => h (by rw [← z]; exact List.mem_cons_self)
    rw [List.map_cons, if_neg h1, map_putK_id fun z => h (List.mem_cons_of_mem _ z)]
theorem putK_putA {κ : Type} [DecidableEq κ] : ∀ {kvs : List (κ × V)} {k : κ} {v : V}, (kvs.map (·.1)).Nodup → putK kvs k v = putA kvs k v
  | [], k, v, _ => rfl
  | p :: r, k, v, hn => by
    obtain ⟨h1, h2⟩ := List.nodup_cons.mp (show (p.1 :: r.map (·.1)).Nodup from hn)
    have ih := putK_putA (k := k) (v := v) h2
    unfold putA
    by_cases e : p.1 = k
    · rw [if_pos e]
      unfold putK
      rw [if_pos (by rw [List.any_cons, decide_eq_true e, Bool.true_or]), List.map_cons, if_pos e, map_putK_id (by rw [← e]; exact h1)]
    · rw [if_neg e, ← ih]
      unfold putK
      rw [List.any_cons, decide_eq_false e, Bool.false_or]
      split
      · rw [List.map_cons, if_neg e]
      · rfl

/-- keys of a dict that we use -/
class Nd (N : Type) [DecidableEq N] where
  /-- the dict -/
  dic : List (N × V) → HO
  dct : ∀ l, isDct (dic l) = true
  mt : ∀ l, Mut (some (dic l))
  inj : ∀ l m, dic l = dic m → l = m
  /-- a key's value -/
  nd : N → Pr
  mnd : ∀ n, Mn (nd n)
  get : ∀ {F H : Hp} {a : Addr} {l : List (N × V)} {n : N} {v : V}, Rd H a (dic l) → Sub F H → nd n F v → DGet H a v (luk l n)
  put : ∀ {F H : Hp} {a : Addr} {l : List (N × V)} {n : N} {v y : V}, H a = some (dic l) → (l.map (·.1)).Nodup → Sub F H → nd n F v → l.length < sizeLine → DPut H a v y (upd H a (dic (putA l n y)))
  /-- how a walk yields a key -/
  keys : ∀ {σ : L2.St} {j : Nat} {H : Hp} {R : It → Hp → Prop} {d : Addr} {o : Obj} {l : List (N × V)}, σ[j]? = some (some (.ref d)) → H d = some (.frz o (dic l)) →
    (∀ J : It, (∀ i H', H' d = some (.frz o (dic l)) → i < l.length → J.go i H') → (∀ i H', H' d = some (.frz o (dic l)) → l.length ≤ i → J.stop i H') →
      (∀ i H' x H'', J.yld i H' x H'' → H'' = H' ∧ ∃ n w, l[i]? = some (n, w) ∧ ∀ F, Sub F H' → ∃ F', Gr F H' F' H' ∧ nd n F' x) → R J H) →
    iKeys (tVar j) σ H R
  /-- {} -/
  tnew : TE
  tnew_eq : ∀ σ H Q, (∀ p, H p = none → Q (.ref p) (upd H p (dic []))) → tnew σ H Q
  pnew : ∀ {X : Cx} {pos : Pos}, PE X (.Dict [] [] pos) tnew
  emp : ∀ {P : Program} {w : World} {H : Hp} (h : Heap), sysModules < h.objs.size → ObjOk P w H (h.push { cls := .type "dict", data := .dict #[] }) h.objs.size (dic [])
instance {N : Type} [DecidableEq N] [Nd N] {n : N} : Mn (Nd.nd n) := Nd.mnd n
section
variable {N κ : Type} [DecidableEq N] [DecidableEq κ] (f : N → κ) (hf : ∀ a b, f a = f b → a = b)
include hf
theorem luk_enc {α : Type} : ∀ (l : List (N × α)) (n : N), luk (l.map fun p => (f p.1, p.2)) (f n) = luk l n
  | [], _ => rfl
  | p :: r, n => by
    show (if f p.1 = f n then some p.2 else luk (r.map fun p => (f p.1, p.2)) (f n)) = if p.1 = n then some p.2 else luk r n
    by_cases e : p.1 = n
    · rw [if_pos e, if_pos (by rw [e])]
    · rw [if_neg e, if_neg (fun z => e (hf _ _ z)), luk_enc r n]
theorem putA_enc {α : Type} : ∀ (l : List (N × α)) (n : N) (a : α), putA (l.map fun p => (f p.1, p.2)) (f n) a = (putA l n a).map fun p => (f p.1, p.2)
  | [], _, _ => rfl
  | p :: r, n, a => by
    show (if f p.1 = f n then (f p.1, a) :: (r.map fun p => (f p.1, p.2)) else (f p.1, p.2) :: putA (r.map fun p => (f p.1, p.2)) (f n) a) = (if p.1 = n then (p.1, a) :: r else p :: putA r n a).map fun p => (f p.1, p.2)
    by_cases e : p.1 = n
    · rw [if_pos e, if_pos (by rw [e])]; rfl
    · rw [if_neg e, if_neg (fun z => e (hf _ _ z)), putA_enc r n a]; rfl
theorem nodup_enc {α : Type} : ∀ {l : List (N × α)}, (l.map (·.1)).Nodup → ((l.map fun p => (f p.1, p.2)).map (·.1)).Nodup
  | [], _ => List.nodup_nil
  | p :: r, h => by
    obtain ⟨h1, h2⟩ := List.nodup_cons.mp (show (p.1 :: r.map (·.1)).Nodup from h)
    show (f p.1 :: (r.map fun p => (f p.1, p.2)).map (·.1)).Nodup
    refine List.nodup_cons.mpr ⟨fun m => h1 ?_, nodup_enc h2⟩
    obtain ⟨q, hq, e⟩ := List.mem_map.mp m
    obtain ⟨q', hq', rfl⟩ := List.mem_map.mp hq
    exact List.mem_map.mpr ⟨q', hq', hf _ _ e⟩
theorem map_inj {α : Type} : ∀ {l m : List (N × α)}, (l.map fun p => (f p.1, p.2)) = (m.map fun p => (f p.1, p.2)) → l = m
  | [], [], _ => rfl
  | [], _ :: _, h => by cases h
  | _ :: _, [], h => by cases h
  | (a, b) :: l, (c, d) :: m, h => by
    rw [List.map_cons, List.map_cons] at h
    injection h with h1 h2
    injection h1 with h3 h4
    have e := hf _ _ h3
    dsimp at e h4
    rw [e, h4, map_inj h2]
end
section
variable {N : Type} [DecidableEq N] (f : N → Key) (hf : ∀ a b, f a = f b → a = b)
/-- ints (or texts) as keys -/
@[reducible] def ndK : Nd N where
  dic l := .dK (l.map fun p => (f p.1, p.2))
  dct _ := rfl
  mt _ := trivial
  inj l m h := by
    injection h with h
    exact map_inj f hf h
  nd n := isV (kV (f n))
  mnd n := inferInstance
  get := by
    intro F H a l n v r _ hv
    obtain rfl : v = _ := hv
    refine .inl ⟨_, f n, r, rfl, ?_⟩
    rw [valV_luk, luk_enc f hf]
  put := by
    intro F H a l n v y h hn _ hv hl
    obtain rfl : v = _ := hv
    refine .inl ⟨_, f n, h, rfl, by rw [List.length_map]; exact hl, ?_⟩
    rw [putK_putA (nodup_enc f hf hn), putA_enc f hf]
  keys := by
    intro σ j H R d o l hv h k
    refine ⟨.ref d, hv, d, o, rfl, .inl ⟨_, h, k _ (fun i H' e hi => ⟨e, by rw [List.length_map]; exact hi⟩) (fun i H' e hi => ⟨e, by rw [List.length_map]; exact hi⟩) ?_⟩⟩
    rintro i H' x H'' ⟨e, k, w, hk, hx⟩
    rw [List.getElem?_map] at hk
    cases q : l[i]? with
    | none => rw [q] at hk; cases hk
    | some p =>
      rw [q] at hk
      cases hk
      exact ⟨e, p.1, _, rfl, fun F s => ⟨F, Gr.refl, hx⟩⟩
  tnew := tDNewK
  tnew_eq := fun σ H Q h => h
  pnew := pe_dnewK
  emp h hb := dk_empty h hb
end
section
variable {N : Type} [DecidableEq N] (f : N → List Key) (hf : ∀ a b, f a = f b → a = b)
/-- tuples as keys -/
@[reducible] def ndT : Nd N where
  dic l := .dT (l.map fun p => (f p.1, p.2))
  dct _ := rfl
  mt _ := trivial
  inj l m h := by
    injection h with h
    exact map_inj f hf h
  nd n := isTup ((f n).map fun k => isV (kV k))
  mnd n := inferInstance
  get := by
    intro F H a l n v r s hv
    obtain ⟨b, vs, rfl, hb, hp⟩ := hv
    have e : vs = (f n).map kV := by
      have hp' : PrL F (((f n).map kV).map isV) vs := by rw [List.map_map]; exact hp
      exact hp'.isVs
    refine .inr ⟨_, f n, b, r, rfl, ?_, ?_⟩
    · rw [← e]; exact s.tup hb
    · rw [valV_luk, luk_enc f hf]
  put := by
    intro F H a l n v y h hn s hv hl
    obtain ⟨b, vs, rfl, hb, hp⟩ := hv
    have e : vs = (f n).map kV := by
      have hp' : PrL F (((f n).map kV).map isV) vs := by rw [List.map_map]; exact hp
      exact hp'.isVs
    have hbH := s.tup hb
    rw [e] at hbH
    refine .inr ⟨_, f n, b, h, rfl, hbH, by rw [List.length_map]; exact hl, ?_⟩
    rw [putK_putA (nodup_enc f hf hn), putA_enc f hf]
  keys := by
    intro σ j H R d o l hv h k
    refine ⟨.ref d, hv, d, o, rfl, .inr ⟨_, h, k _ (fun i H' e hi => ⟨e, by rw [List.length_map]; exact hi⟩) (fun i H' e hi => ⟨e, by rw [List.length_map]; exact hi⟩) ?_⟩⟩
    rintro i H' x H'' ⟨e, k, w, q, hk, hx, hq⟩
    rw [List.getElem?_map] at hk
    cases z : l[i]? with
    | none => rw [z] at hk; cases hk
    | some p =>
      rw [z] at hk
      cases hk
      refine ⟨e, p.1, _, rfl, fun F s => ?_⟩
      have hF : F q = none ∨ F q = some (.tup ((f p.1).map kV)) := by
        cases r : F q with
        | none => exact .inl rfl
        | some u =>
          rcases s q u r with c | ⟨_, ob, c⟩
          · rw [hq] at c; cases c; exact .inr rfl
          · rw [hq] at c; cases c
      obtain ⟨F', g, fq⟩ := Gr.tup hq hF
      refine ⟨F', g, q, _, hx, fq, ?_⟩
      have := PrL.of_isV (F := F') ((f p.1).map kV)
      rw [List.map_map] at this
      exact this
  tnew := tDNewT
  tnew_eq := fun σ H Q h => h
  pnew := pe_dnewT
  emp h hb := dt_empty h hb
end
instance ndInt : Nd Int := ndK Sum.inl fun _ _ h => Sum.inl.inj h
instance ndPair : Nd (Int × Int) := ndT (fun p => [.inl p.1, .inl p.2]) fun a b h => by
  injection h with h1 h2
  injection h2 with h2 _
  exact Prod.ext (Sum.inl.inj h1) (Sum.inl.inj h2)
instance ndLab : Nd (Int × Str) := ndT (fun p => [.inl p.1, .inr p.2]) fun a b h => by
  injection h with h1 h2
  injection h2 with h2 _
  exact Prod.ext (Sum.inl.inj h1) (Sum.inr.inj h2)
end EL

set_option Elab.async false
set_option linter.all false
set_option maxRecDepth 100000
set_option maxHeartbeats 1000000
namespace EL
open PySem PySem.Spec PyProof.Rows L2

section
variable {N : Type} [DecidableEq N] [Nd N]
/-- a frozen dict: its keys in order, what each value is -/
def isD (kps : List (N × Pr)) : Pr := fun F v => ∃ (a : Addr) (l : List (N × V)), v = .ref a ∧ F a = some (Nd.dic l) ∧ l.map (·.1) = kps.map (·.1) ∧ (kps.map (·.1)).Nodup ∧ PrL F (kps.map (·.2)) (l.map (·.2))
instance {kps : List (N × Pr)} [m : MnL (kps.map (·.2))] : Mn (isD kps) := ⟨fun s ⟨a, l, e, h, k, n, t⟩ => ⟨a, l, e, s _ _ h, k, n, m.mn s t⟩⟩
omit [Nd N] in
theorem PrL.luk {F : Hp} : ∀ {kps : List (N × Pr)} {l : List (N × V)} {n : N} {P : Pr}, l.map (·.1) = kps.map (·.1) → PrL F (kps.map (·.2)) (l.map (·.2)) → luk kps n = some P → ∃ v, EL.luk l n = some v ∧ P F v
  | [], [], n, P, _, _, h => by cases h
  | [], _ :: _, n, P, e, _, h => by cases e
  | _ :: _, [], n, P, e, _, h => by cases e
  | p :: kps, q :: l, n, P, e, t, h => by
    have e1 : q.1 = p.1 := by injection e
    have e2 : l.map (·.1) = kps.map (·.1) := by injection e
    have t' : PrL F (p.2 :: kps.map (·.2)) (q.2 :: l.map (·.2)) := t
    cases t' with
    | cons a t =>
      unfold EL.luk at h ⊢
      by_cases z : p.1 = n
      · rw [if_pos z] at h; cases h
        rw [if_pos (e1.trans z)]
        exact ⟨_, rfl, a⟩
      · rw [if_neg z] at h
        rw [if_neg (fun y => z (e1.symm.trans y))]
        exact PrL.luk e2 t h
omit [Nd N] in
theorem luk_none_of {α β : Type} {kps : List (N × α)} {l : List (N × β)} {n : N} (e : l.map (·.1) = kps.map (·.1)) (h : luk kps n = none) : luk l n = none := by
  rw [luk_none] at h ⊢
  rw [e]
  exact h
end

/-! ### what an expression evaluates to -/
def EvP (te : TE) (σ : L2.St) (F H : Hp) (P : Pr) : Prop := ∀ F1 H1, Gr F H F1 H1 → Sub F1 H1 → ∀ Q : VK, (∀ v F2 H2, Gr F1 H1 F2 H2 → P F2 v → Q v H2) → te σ H1 Q
def EvT (tt : TT) (σ : L2.St) (F H : Hp) (b : Bool) : Prop := ∀ F1 H1, Gr F H F1 H1 → Sub F1 H1 → ∀ Q : Bool → Hp → Prop, (∀ F2 H2, Gr F1 H1 F2 H2 → Q b H2) → tt σ H1 Q
def EvA (ta : TA) (σ : L2.St) (F H : Hp) (Ps : List Pr) : Prop := ∀ F1 H1, Gr F H F1 H1 → Sub F1 H1 → ∀ Q : List V → Hp → Prop, (∀ vs F2 H2, Gr F1 H1 F2 H2 → PrL F2 Ps vs → Q vs H2) → ta σ H1 Q
def EvO (to : TO) (σ : L2.St) (F H : Hp) (o : Option Int) : Prop := ∀ F1 H1, Gr F H F1 H1 → Sub F1 H1 → ∀ Q : Option Int → Hp → Prop, (∀ F2 H2, Gr F1 H1 F2 H2 → Q o H2) → to σ H1 Q
/-- a two-place operation on values; a call on values -/
def OpP (r : R2) (Pa Pb P : Pr) (F H : Hp) : Prop := ∀ F1 H1 x y, Gr F H F1 H1 → Sub F1 H1 → Pa F1 x → Pb F1 y → ∀ Q : VK, (∀ v F2 H2, Gr F1 H1 F2 H2 → P F2 v → Q v H2) → r x y H1 Q
def CaP (r : List V → Hp → VK → Prop) (Ps : List Pr) (P : Pr) (F H : Hp) : Prop := ∀ F1 H1 vs, Gr F H F1 H1 → Sub F1 H1 → PrL F1 Ps vs → ∀ Q : VK, (∀ v F2 H2, Gr F1 H1 F2 H2 → P F2 v → Q v H2) → r vs H1 Q
section
variable {K : PySem.W.Frag} {σ : L2.St} {F H F' H' : Hp} {ta tb tc te tx : TE} {t u : TT} {x y z v : V} {r r' : R2} {P Pa Pb Pc : Pr} {Ps : List Pr}
theorem EvP.mono (h : EvP te σ F H P) (g : Gr F H F' H') : EvP te σ F' H' P := fun F1 H1 g1 s Q q => h F1 H1 (g.trans g1) s Q q
theorem EvT.mono {b : Bool} (h : EvT t σ F H b) (g : Gr F H F' H') : EvT t σ F' H' b := fun F1 H1 g1 s Q q => h F1 H1 (g.trans g1) s Q q
theorem EvA.mono {ta : TA} (h : EvA ta σ F H Ps) (g : Gr F H F' H') : EvA ta σ F' H' Ps := fun F1 H1 g1 s Q q => h F1 H1 (g.trans g1) s Q q
theorem EvP.imp (h : EvP te σ F H Pa) (i : ∀ F v, Pa F v → P F v) : EvP te σ F H P := fun F1 H1 g1 s Q q => h F1 H1 g1 s Q fun v F2 H2 g2 p => q v F2 H2 g2 (i _ _ p)
/-- a scalar that has another name -/
theorem EvP.is {w : V} (h : EvP te σ F H (isV v)) (e : v = w) : EvP te σ F H (isV w) := e ▸ h
theorem EvT.is {b c : Bool} (h : EvT t σ F H b) (e : b = c) : EvT t σ F H c := e ▸ h
theorem ev_var {i : Nat} (h : σ[i]? = some (some v)) (m : Mn P) (hp : P F v) : EvP (tVar i) σ F H P := fun F1 H1 g _ Q q => ⟨v, h, q v F1 H1 Gr.refl (m.mn g.fx hp)⟩
/-- a name, by its value -/
theorem ev_varV {i : Nat} (h : σ[i]? = some (some v)) : EvP (tVar i) σ F H (isV v) := fun F1 H1 g _ Q q => ⟨v, h, q v F1 H1 Gr.refl rfl⟩
theorem ev_c : EvP (tC v) σ F H (isV v) := fun F1 H1 _ _ Q q => q v F1 H1 Gr.refl rfl
theorem ev_op (ha : EvP ta σ F H Pa) (hb : EvP tb σ F H Pb) (ma : Mn Pa) (hr : OpP r Pa Pb P F H) : EvP (tOp r ta tb) σ F H P := fun F1 H1 g s Q q =>
  ha F1 H1 g s _ fun x F2 H2 g2 p => hb F2 H2 (g.trans g2) (s.gr g2) _ fun y F3 H3 g3 p' => hr F3 H3 x y ((g.trans g2).trans g3) ((s.gr g2).gr g3) (ma.mn g3.fx p) p' Q fun v F4 H4 g4 p4 => q v F4 H4 ((g2.trans g3).trans g4) p4
theorem OpP.mono (h : OpP r Pa Pb P F H) (g : Gr F H F' H') : OpP r Pa Pb P F' H' := fun F1 H1 x y g1 s a b Q q => h F1 H1 x y (g.trans g1) s a b Q q
/-- an operation that makes nothing -/
theorem op_val {w : V} (h : ∀ F1 H1 x y, Gr F H F1 H1 → Sub F1 H1 → Pa F1 x → Pb F1 y → ∀ Q : VK, Q w H1 → r x y H1 Q) : OpP r Pa Pb (isV w) F H := fun F1 H1 x y g s a b Q q => h F1 H1 x y g s a b Q (q w F1 H1 Gr.refl rfl)
theorem op_I0 {g : Int → Int → V} {i j : Int} : OpP (rI0 g) (isV (.int i)) (isV (.int j)) (isV (g i j)) F H := op_val fun _ _ _ _ _ _ a b _ q => ⟨i, j, a, b, q⟩
theorem op_I {C : Int → Int → Prop} {g : Int → Int → V} {i j : Int} (hc : C i j) : OpP (rI C g) (isV (.int i)) (isV (.int j)) (isV (g i j)) F H := op_val fun _ _ _ _ _ _ a b _ q => ⟨i, j, a, b, hc, q⟩
theorem op_Eq {v w : V} (h : scal v w = true) : OpP rEq (isV v) (isV w) (isV (.bl (decide (v = w)))) F H := op_val fun _ _ x y _ _ a b _ q => by
  obtain rfl : x = v := a
  obtain rfl : y = w := b
  exact ⟨h, q⟩
theorem op_Ne {v w : V} (h : scal v w = true) : OpP rNe (isV v) (isV w) (isV (.bl (!decide (v = w)))) F H := op_val fun _ _ x y _ _ a b _ q => by
  obtain rfl : x = v := a
  obtain rfl : y = w := b
  exact ⟨h, q⟩
/-- an item of a frozen list, tuple -/
theorem op_ixL {i : Int} (h : atI Ps i = some P) : OpP (rIxL K) (isLst Ps) (isV (.int i)) P F H := fun F1 H1 x y g s ⟨a, vs, e, hF, hp⟩ b Q q => by
  obtain rfl : y = _ := b
  unfold atI at h
  cases e2 : ixN Ps.length i with
  | none => rw [e2] at h; cases h
  | some j =>
    rw [e2] at h
    obtain ⟨v, h1, h2⟩ := hp.get (show Ps[j]? = some P from h)
    refine ⟨a, vs, i, v, e, rfl, SqL.of (s.lst hF), ?_, q v F1 H1 Gr.refl h2⟩
    unfold atI
    rw [hp.length, e2]
    exact h1
theorem op_ixT {i : Int} (h : atI Ps i = some P) : OpP (rIxT K) (isTup Ps) (isV (.int i)) P F H := fun F1 H1 x y g s ⟨a, vs, e, hF, hp⟩ b Q q => by
  obtain rfl : y = _ := b
  unfold atI at h
  cases e2 : ixN Ps.length i with
  | none => rw [e2] at h; cases h
  | some j =>
    rw [e2] at h
    obtain ⟨v, h1, h2⟩ := hp.get (show Ps[j]? = some P from h)
    refine ⟨a, vs, i, v, e, rfl, SqT.of (s.tup hF), ?_, q v F1 H1 Gr.refl h2⟩
    unfold atI
    rw [hp.length, e2]
    exact h1
theorem op_ixS {w : Str} {i : Int} {c : Nat} (hl : w.length ≤ 100000) (h : atI w.cps.toList i = some c) : OpP rIxS (isV (.str w)) (isV (.int i)) (isV (.str ⟨#[c]⟩)) F H := op_val fun _ _ _ _ _ _ a b _ q =>
  ⟨w, i, c, a, b, Nat.le_trans hl (by decide), h, q⟩
theorem op_cat {Qs : List Pr} (hz : Ps.length + Qs.length ≤ 100000) (m : MnL Ps) (m' : MnL Qs) : OpP rCat (isLst Ps) (isLst Qs) (isLst (Ps ++ Qs)) F H := fun F1 H1 x y g s ⟨a, vs, e, hF, hp⟩ ⟨b, ws, e', hF', hp'⟩ Q q =>
  ⟨a, b, vs, ws, e, e', s.lst hF, s.lst hF', by rw [hp.length, hp'.length]; exact Nat.le_trans hz (by decide), fun p np => by
    have f := s.free np
    exact q (.ref p) _ _ (Gr.newF np f) ⟨p, vs ++ ws, rfl, upd_same, (m.mn (same_new f) hp).append (m'.mn (same_new f) hp')⟩⟩
theorem op_addS {a b : Str} (h : a.length + b.length ≤ 100000) : OpP (fun x y H Q => ∃ i j, x = .str i ∧ y = .str j ∧ i.length + j.length ≤ sizeLine ∧ Q (.str (i ++ j)) H) (isV (.str a)) (isV (.str b)) (isV (.str (a ++ b))) F H := op_val fun _ _ _ _ _ _ ha hb _ q => ⟨a, b, ha, hb, Nat.le_trans h (by decide), q⟩
/-- is (not) None -/
theorem op_isN' : OpP (fun x y H Q => y = .non ∧ Q (.bl (decide (x = .non))) H) (isV v) (isV .non) (isV (.bl (decide (v = .non)))) F H := op_val fun _ _ x y _ _ ha hb _ q => by
  obtain rfl : x = v := ha
  exact ⟨hb, q⟩
theorem op_notN' : OpP (fun x y H Q => y = .non ∧ Q (.bl (!decide (x = .non))) H) (isV v) (isV .non) (isV (.bl (!decide (v = .non)))) F H := op_val fun _ _ x y _ _ ha hb _ q => by
  obtain rfl : x = v := ha
  exact ⟨hb, q⟩
/-- x in a list of flat things -/
theorem op_inL {neg : Bool} {w : V} {ws : List V} (hx : flatV w = true) (hw : ws.all flatV = true) : OpP (rIn K neg) (isV w) (isLst (ws.map isV)) (isV (.bl (if neg then !inV w ws else inV w ws))) F H := op_val fun F1 H1 x y g s ha ⟨a, vs, e, hF, hp⟩ _ q => by
  obtain rfl : x = w := ha
  obtain rfl := hp.isVs
  exact ⟨a, _, e, .inl (SqL.of (s.lst hF)), hx, hw, q⟩
/-- chains -/
theorem ev_chain {b : Bool} {Pz : Pr} (ha : EvP ta σ F H Pa) (hb : EvP tb σ F H Pb) (ma : Mn Pa) (mb : Mn Pb) (hr : OpP r Pa Pb (isV (.bl b)) F H) (hc : b = true → EvP tc σ F H Pc) (hr' : b = true → OpP r' Pb Pc P F H) (hf : b = false → P = isV (.bl false)) :
    EvP (tChain r r' ta tb tc) σ F H P := fun F1 H1 g s Q q =>
  ha F1 H1 g s _ fun x F2 H2 g2 p => hb F2 H2 (g.trans g2) (s.gr g2) _ fun y F3 H3 g3 p' => hr F3 H3 x y ((g.trans g2).trans g3) ((s.gr g2).gr g3) (ma.mn g3.fx p) p' _ fun v F4 H4 g4 e => by
    obtain rfl : v = _ := e
    have gg := (g2.trans g3).trans g4
    refine ⟨b, rfl, ?_⟩
    cases b with
    | true =>
      rw [if_pos rfl]
      exact hc rfl F4 H4 (g.trans gg) (s.gr gg) _ fun w F5 H5 g5 p5 => hr' rfl F5 H5 y w (g.trans (gg.trans g5)) (s.gr (gg.trans g5)) (mb.mn (g4.trans g5).fx p') p5 Q fun v F6 H6 g6 p6 => q v F6 H6 ((gg.trans g5).trans g6) p6
    | false =>
      rw [if_neg Bool.false_ne_true]
      refine q _ F4 H4 gg ?_
      rw [hf rfl]
      rfl
/-! tests -/
theorem et_test {b : Bool} (h : EvP te σ F H (isV (.bl b))) : EvT (tTest te) σ F H b := fun F1 H1 g s _ q => h F1 H1 g s _ fun v F2 H2 g2 e => ⟨b, e, q F2 H2 g2⟩
theorem et_B {b : Bool} (h : EvP te σ F H (isV (.bl b))) : EvT (tB te) σ F H b := fun F1 H1 g s _ q => h F1 H1 g s _ fun v F2 H2 g2 e => ⟨b, e, q F2 H2 g2⟩
theorem et_and {a b : Bool} (h1 : EvT t σ F H a) (h2 : a = true → EvT u σ F H b) : EvT (tAnd t u) σ F H (a && b) := fun F1 H1 g s Q q => h1 F1 H1 g s _ fun F2 H2 g2 => by
  cases a with
  | true =>
    show u σ H2 Q
    exact h2 rfl F2 H2 (g.trans g2) (s.gr g2) Q fun F3 H3 g3 => q F3 H3 (g2.trans g3)
  | false => exact q F2 H2 g2
theorem et_or {a b : Bool} (h1 : EvT t σ F H a) (h2 : a = false → EvT u σ F H b) : EvT (tOr t u) σ F H (a || b) := fun F1 H1 g s Q q => h1 F1 H1 g s _ fun F2 H2 g2 => by
  cases a with
  | true => exact q F2 H2 g2
  | false =>
    show u σ H2 Q
    exact h2 rfl F2 H2 (g.trans g2) (s.gr g2) Q fun F3 H3 g3 => q F3 H3 (g2.trans g3)
theorem et_not {a : Bool} (h1 : EvT t σ F H a) : EvT (tNot t) σ F H (!a) := fun F1 H1 g s _ q => h1 F1 H1 g s _ fun F2 H2 g2 => q F2 H2 g2
theorem et_yes : EvT tYes σ F H true := fun F1 H1 g s _ q => q F1 H1 Gr.refl
theorem ev_andV {a b : Bool} (h1 : EvP ta σ F H (isV (.bl a))) (h2 : a = true → EvP tb σ F H (isV (.bl b))) : EvP (tAndV ta tb) σ F H (isV (.bl (a && b))) := fun F1 H1 g s Q q => h1 F1 H1 g s _ fun v F2 H2 g2 e => ⟨a, e, by
  cases a with
  | true =>
    show tb σ H2 Q
    exact h2 rfl F2 H2 (g.trans g2) (s.gr g2) Q fun v F3 H3 g3 p => q v F3 H3 (g2.trans g3) p
  | false => exact q _ F2 H2 g2 rfl⟩
theorem ev_orV {a b : Bool} (h1 : EvP ta σ F H (isV (.bl a))) (h2 : a = false → EvP tb σ F H (isV (.bl b))) : EvP (tOrV ta tb) σ F H (isV (.bl (a || b))) := fun F1 H1 g s Q q => h1 F1 H1 g s _ fun v F2 H2 g2 e => ⟨a, e, by
  cases a with
  | true => exact q _ F2 H2 g2 rfl
  | false =>
    show tb σ H2 Q
    exact h2 rfl F2 H2 (g.trans g2) (s.gr g2) Q fun v F3 H3 g3 p => q v F3 H3 (g2.trans g3) p⟩
theorem ev_notV {a : Bool} (h1 : EvP ta σ F H (isV (.bl a))) : EvP (tNotV ta) σ F H (isV (.bl (!a))) := fun F1 H1 g s Q q => h1 F1 H1 g s _ fun v F2 H2 g2 e => ⟨a, e, q _ F2 H2 g2 rfl⟩
theorem ev_if {b : Bool} (h : EvT t σ F H b) (h1 : b = true → EvP ta σ F H P) (h2 : b = false → EvP tb σ F H P) : EvP (tIf t ta tb) σ F H P := fun F1 H1 g s Q q => h F1 H1 g s _ fun F2 H2 g2 => by
  cases b with
  | true => exact h1 rfl F2 H2 (g.trans g2) (s.gr g2) Q fun v F3 H3 g3 p => q v F3 H3 (g2.trans g3) p
  | false => exact h2 rfl F2 H2 (g.trans g2) (s.gr g2) Q fun v F3 H3 g3 p => q v F3 H3 (g2.trans g3) p
/-! argument lists, displays -/
theorem ea_nil : EvA tNil σ F H [] := fun F1 H1 g s _ q => q [] F1 H1 Gr.refl .nil
theorem ea_cons {tr : TA} (h : EvP ta σ F H P) (m : Mn P) (hr : EvA tr σ F H Ps) : EvA (tCons ta tr) σ F H (P :: Ps) := fun F1 H1 g s _ q =>
  h F1 H1 g s _ fun v F2 H2 g2 p => hr F2 H2 (g.trans g2) (s.gr g2) _ fun vs F3 H3 g3 ps => q _ F3 H3 (g2.trans g3) (.cons (m.mn g3.fx p) ps)
theorem ev_tup {ta : TA} (h : EvA ta σ F H Ps) (m : MnL Ps) (hl : Ps.length ≤ 1000 := by simp) : EvP (tTup ta) σ F H (isTup Ps) := fun F1 H1 g s _ q =>
  h F1 H1 g s _ fun vs F2 H2 g2 ps => ⟨by rw [ps.length]; exact Nat.le_trans hl (by decide), fun p np => by
    have f := (s.gr g2).free np
    exact q _ _ _ (g2.trans (Gr.newF np f)) ⟨p, vs, rfl, upd_same, m.mn (same_new f) ps⟩⟩
theorem ev_lst {ta : TA} (h : EvA ta σ F H Ps) (m : MnL Ps) (hl : Ps.length ≤ 1000 := by simp) : EvP (tLst ta) σ F H (isLst Ps) := fun F1 H1 g s _ q =>
  h F1 H1 g s _ fun vs F2 H2 g2 ps => ⟨by rw [ps.length]; exact Nat.le_trans hl (by decide), fun p np => by
    have f := (s.gr g2).free np
    exact q _ _ _ (g2.trans (Gr.newF np f)) ⟨p, vs, rfl, upd_same, m.mn (same_new f) ps⟩⟩
/-! calls of built-ins -/
theorem ev_cb {rc : List V → Hp → VK → Prop} {ta : TA} (h : EvA ta σ F H Ps) (hr : CaP rc Ps P F H) : EvP (tCB rc ta) σ F H P := fun F1 H1 g s Q q =>
  h F1 H1 g s _ fun vs F2 H2 g2 ps => hr F2 H2 vs (g.trans g2) (s.gr g2) ps Q fun v F3 H3 g3 p => q v F3 H3 (g2.trans g3) p
theorem ca_val {rc : List V → Hp → VK → Prop} {w : V} (h : ∀ F1 H1 vs, Gr F H F1 H1 → Sub F1 H1 → PrL F1 Ps vs → ∀ Q : VK, Q w H1 → rc vs H1 Q) : CaP rc Ps (isV w) F H := fun F1 H1 vs g s ps Q q => h F1 H1 vs g s ps Q (q w F1 H1 Gr.refl rfl)
/-! dict reads -/
theorem ev_dget {N : Type} [DecidableEq N] [Nd N] {kps : List (N × Pr)} {n : N} {ty : TE} (hd : EvP ta σ F H (isD kps)) (m : Mn (isD kps)) (hy : EvP ty σ F H (Nd.nd n)) (h : luk kps n = some P) : EvP (tDGet ta ty) σ F H P := fun F1 H1 g s Q q =>
  hd F1 H1 g s _ fun x F2 H2 g2 p => hy F2 H2 (g.trans g2) (s.gr g2) _ fun y F3 H3 g3 py => by
    obtain ⟨a, l, e, hF, hk, hn, hp⟩ := m.mn g3.fx p
    have s3 := (s.gr g2).gr g3
    obtain ⟨v, h1, h2⟩ := PrL.luk hk hp h
    have dg := Nd.get (s3.rd hF) s3 py
    rw [h1] at dg
    exact ⟨a, v, e, dg, q v F3 H3 (g2.trans g3) h2⟩
theorem ev_din {N : Type} [DecidableEq N] [Nd N] {kps : List (N × Pr)} {n : N} {ty : TE} (hy : EvP ty σ F H (Nd.nd n)) (hd : EvP ta σ F H (isD kps)) : EvP (tDIn ty ta) σ F H (isV (.bl (luk kps n).isSome)) := fun F1 H1 g s Q q =>
  hy F1 H1 g s _ fun y F2 H2 g2 py => hd F2 H2 (g.trans g2) (s.gr g2) _ fun x F3 H3 g3 ⟨a, l, e, hF, hk, hn, hp⟩ => by
    have s3 := (s.gr g2).gr g3
    have dg := Nd.get (s3.rd hF) s3 ((Nd.mnd n).mn g3.fx py)
    refine ⟨a, _, e, dg, ?_⟩
    have ee : (luk l n).isSome = (luk kps n).isSome := by
      cases z : luk kps n with
      | none =>
        rw [luk_none_of hk z]
        all_goals rfl
      | some P =>
        obtain ⟨v, h1, _⟩ := PrL.luk hk hp z
        rw [h1] <;> rfl
    rw [ee]
    exact q _ F3 H3 (g2.trans g3) rfl
end
end EL

set_option Elab.async false
set_option linter.all false
set_option maxRecDepth 100000
set_option maxHeartbeats 1000000
namespace EL
open PySem PySem.Spec PyProof.Rows L2

/-! ### the world of a def's body: base (F0, H0), owned things L, a lock k on a frozen dict -/
abbrev Lk := Option (Addr × Obj × HO)
def unl (H : Hp) : Lk → Hp
  | none => H
  | some (d, _, u) => upd H d u
structure Wr (F0 H0 : Hp) (L : List (Addr × HO)) (F H : Hp) (k : Lk) : Prop where
  gr : Gr F0 H0 F (unl H k)
  sm : Same F (unl H k)
  lk : ∀ d od u, k = some (d, od, u) → H d = some (.frz od u) ∧ isDct u = true ∧ F d = some u
  nd : (L.map (·.1)).Nodup
  ow : ∀ p ∈ L, H0 p.1 = none ∧ F p.1 = none ∧ H p.1 = some p.2 ∧ notTup p.2 = true
section
variable {F0 H0 F H F1 H1 : Hp} {L : List (Addr × HO)} {k : Lk} {p l d : Addr} {o u : HO} {od : Obj}
theorem Wr.start (s : Same F0 H0) : Wr F0 H0 [] F0 H0 none := ⟨Gr.refl, s, fun _ _ _ e => (by cases e), List.nodup_nil, fun _ h => (by cases h)⟩
theorem Wr.sub (W : Wr F0 H0 L F H k) : Sub F H := by
  intro a o e
  cases k with
  | none => exact .inl (W.sm a o e)
  | some q =>
    obtain ⟨d, od, u⟩ := q
    obtain ⟨h1, h2, h3⟩ := W.lk d od u rfl
    have e2 := W.sm a o e
    by_cases z : a = d
    · subst z
      have e3 : upd H a u a = some o := e2
      rw [upd_same] at e3
      cases e3
      exact .inr ⟨h2, od, h1⟩
    · have e3 : upd H d u a = some o := e2
      rw [upd_ne z] at e3
      exact .inl e3
theorem unl_ne {a : Addr} {q : HO} (W : Wr F0 H0 L F H k) (h : H a = some q) (nf : ∀ od u, q ≠ .frz od u) : unl H k a = some q := by
  cases k with
  | none => exact h
  | some r =>
    obtain ⟨d, od, u⟩ := r
    obtain ⟨h1, h2, h3⟩ := W.lk d od u rfl
    show upd H d u a = some q
    rw [upd_ne (fun z => by subst z; rw [h1] at h; cases h; exact nf _ _ rfl)]
    exact h
theorem unl_none {a : Addr} (W : Wr F0 H0 L F H k) (h : H a = none) : unl H k a = none := by
  cases k with
  | none => exact h
  | some r =>
    obtain ⟨d, od, u⟩ := r
    obtain ⟨h1, h2, h3⟩ := W.lk d od u rfl
    show upd H d u a = none
    rw [upd_ne (fun z => by subst z; rw [h1] at h; cases h)]
    exact h
theorem gr_unl (W : Wr F0 H0 L F H k) (g : Gr F H F1 H1) : Gr F (unl H k) F1 (unl H1 k) := by
  cases k with
  | none => exact g
  | some q =>
    obtain ⟨d, od, u⟩ := q
    obtain ⟨h1, h2, h3⟩ := W.lk d od u rfl
    refine ⟨fun a o e => ?_, g.fx, fun a o e1 e2 => ?_⟩
    · show upd H1 d u a = some o
      have e : upd H d u a = some o := e
      by_cases z : a = d
      · rw [z, upd_same] at e ⊢; exact e
      · rw [upd_ne z] at e ⊢; exact g.ex _ _ e
    · obtain ⟨n1, n2⟩ := g.nw a o e1 e2
      have z : a ≠ d := fun z => by
        subst z
        rcases n2 with n2 | ⟨xs, rfl⟩
        · rw [h1] at n2; cases n2
        · have := g.ex _ _ h1; rw [n1] at this; cases this
      refine ⟨by show upd H1 d u a = some o; rw [upd_ne z]; exact n1, n2.imp (fun n => ?_) id⟩
      show upd H d u a = none
      rw [upd_ne z]; exact n
theorem Wr.gro (W : Wr F0 H0 L F H k) (g : Gr F H F1 H1) : Wr F0 H0 L F1 H1 k := by
  have gu := gr_unl W g
  refine ⟨W.gr.trans gu, Gr.same W.sm gu, fun d od u e => ⟨g.ex _ _ (W.lk d od u e).1, (W.lk d od u e).2.1, g.fx _ _ (W.lk d od u e).2.2⟩, W.nd, fun p hp => ?_⟩
  obtain ⟨a, b, c, e⟩ := W.ow p hp
  exact ⟨a, g.none b c e, g.ex _ _ c, e⟩
theorem Wr.free (W : Wr F0 H0 L F H k) (hp : H p = none) : H0 p = none ∧ F p = none ∧ p ∉ L.map (·.1) := by
  refine ⟨W.gr.ex.free (unl_none W hp), W.sub.free hp, fun m => ?_⟩
  obtain ⟨q, hq, e⟩ := List.mem_map.mp m
  have := (W.ow q hq).2.2.1
  rw [e, hp] at this
  cases this
/-- a new thing of one's own -/
theorem Wr.new (W : Wr F0 H0 L F H k) (hp : H p = none) (nt : notTup o = true) : Wr F0 H0 ((p, o) :: L) F (upd H p o) k := by
  obtain ⟨f1, f2, f3⟩ := W.free hp
  have W1 := W.gro (Gr.new (o := o) hp)
  refine ⟨W1.gr, W1.sm, W1.lk, List.nodup_cons.mpr ⟨f3, W.nd⟩, fun q hq => ?_⟩
  rcases List.mem_cons.mp hq with e | hq
  · subst e; exact ⟨f1, f2, upd_same, nt⟩
  · exact W1.ow q hq
theorem Wr.at (W : Wr F0 H0 L F H k) {j : Nat} (h : L[j]? = some (l, o)) : H l = some o := (W.ow _ (List.mem_of_getElem? h)).2.2.1
theorem Wr.h0 (W : Wr F0 H0 L F H k) {j : Nat} (h : L[j]? = some (l, o)) : H0 l = none := (W.ow _ (List.mem_of_getElem? h)).1
theorem Wr.f (W : Wr F0 H0 L F H k) {j : Nat} (h : L[j]? = some (l, o)) : F l = none := (W.ow _ (List.mem_of_getElem? h)).2.1
theorem Wr.ne (W : Wr F0 H0 L F H k) {i j : Nat} {a b : Addr} {q r : HO} (h : L[i]? = some (a, q)) (h' : L[j]? = some (b, r)) (n : i ≠ j) : a ≠ b := fun e => n (nd_ix W.nd (x := a) (by rw [List.getElem?_map, h]; rfl) (by rw [List.getElem?_map, h', e]; rfl))
/-- a thing of one's own is changed (it is not the locked one: that one is frozen) -/
theorem Wr.set (W : Wr F0 H0 L F H k) {j : Nat} (h : L[j]? = some (l, o)) (nt : notTup u = true) : Wr F0 H0 (L.set j (l, u)) F (upd H l u) k := by
  obtain ⟨a, b, c, e⟩ := W.ow _ (List.mem_of_getElem? h)
  have a : H0 l = none := a
  have b : F l = none := b
  have c : H l = some o := c
  have nodl : ∀ d od v, k = some (d, od, v) → l ≠ d := fun d od v e z => by
    have q := (W.lk d od v e).2.2
    rw [← z, b] at q
    cases q
  have eu : unl (upd H l u) k = upd (unl H k) l u := by
    cases k with
    | none => rfl
    | some q =>
      obtain ⟨d, od, v⟩ := q
      have z := nodl d od v rfl
      funext x
      show upd (upd H l u) d v x = upd (upd H d v) l u x
      unfold upd
      by_cases z1 : x = d
      · rw [if_pos z1, if_neg (fun z2 => z (z2.symm.trans z1)), if_pos z1]
      · rw [if_neg z1]
        by_cases z2 : x = l
        · rw [if_pos z2, if_pos z2]
        · rw [if_neg z2, if_neg z2, if_neg z1]
  have nl : ∀ {G : Hp} {x : Addr} {r : HO}, G l = none → G x = some r → x ≠ l := fun n e z => by rw [z, n] at e; cases e
  refine ⟨⟨fun x r e => ?_, W.gr.fx, fun x r e1 e2 => ?_⟩, fun x r e => ?_, fun d od v e => ?_, ?_, fun q hq => ?_⟩
  · rw [eu, upd_ne (nl a e)]; exact W.gr.ex x r e
  · obtain ⟨n1, n2⟩ := W.gr.nw x r e1 e2
    exact ⟨by rw [eu, upd_ne (nl b e2)]; exact n1, n2⟩
  · rw [eu, upd_ne (nl b e)]; exact W.sm x r e
  · obtain ⟨h1, h2, h3⟩ := W.lk d od v e
    exact ⟨by rw [upd_ne (Ne.symm (nodl d od v e))]; exact h1, h2, h3⟩
  · have : (L.set j (l, u)).map (·.1) = L.map (·.1) := by
      rw [List.map_set]
      refine List.ext_getElem? fun i => ?_
      rw [List.getElem?_set]
      split
      · rename_i z
        subst z
        rw [List.getElem?_map, h]
        split
        · rfl
        · rename_i z2
          have := (List.getElem?_eq_some_iff.mp h).1
          simp at z2; omega
      · rfl
    rw [this]; exact W.nd
  · obtain ⟨i, hi⟩ := List.getElem?_of_mem hq
    rw [List.getElem?_set] at hi
    split at hi
    · split at hi
      · cases hi; exact ⟨a, b, upd_same, nt⟩
      · cases hi
    · rename_i z
      obtain ⟨x1, x2, x3, x4⟩ := W.ow q (List.mem_of_getElem? hi)
      exact ⟨x1, x2, by rw [upd_ne (W.ne (a := q.1) (q := q.2) hi h (Ne.symm z))]; exact x3, x4⟩
/-- a thing of one's own is frozen -/
theorem Wr.frz (W : Wr F0 H0 L F H k) {j : Nat} (h : L[j]? = some (l, o)) (nf : ∀ od u, o ≠ .frz od u) : Wr F0 H0 (L.eraseIdx j) (upd F l o) H k ∧ Same F (upd F l o) := by
  obtain ⟨a, b, c, e⟩ := W.ow _ (List.mem_of_getElem? h)
  have a : H0 l = none := a
  have b : F l = none := b
  have c : H l = some o := c
  have sF : Same F (upd F l o) := same_new b
  refine ⟨⟨⟨W.gr.ex, W.gr.fx.trans sF, fun x r e1 e2 => ?_⟩, fun x r e => ?_, fun d od v e => ?_, ?_, fun q hq => ?_⟩, sF⟩
  · by_cases z : x = l
    · subst z
      rw [upd_same] at e2
      cases e2
      exact ⟨unl_ne W c nf, .inl a⟩
    · rw [upd_ne z] at e2
      exact W.gr.nw x r e1 e2
  · by_cases z : x = l
    · subst z
      rw [upd_same] at e
      cases e
      exact unl_ne W c nf
    · rw [upd_ne z] at e
      exact W.sm x r e
  · obtain ⟨h1, h2, h3⟩ := W.lk d od v e
    exact ⟨h1, h2, sF _ _ h3⟩
  · exact (List.Sublist.map _ (List.eraseIdx_sublist ..)).nodup W.nd
  · obtain ⟨i, hi⟩ := List.getElem?_of_mem hq
    have hm := List.mem_of_mem_eraseIdx hq
    obtain ⟨x1, x2, x3, x4⟩ := W.ow q hm
    refine ⟨x1, ?_, x3, x4⟩
    have z : q.1 ≠ l := by
      rw [List.getElem?_eraseIdx] at hi
      split at hi
      · exact W.ne (a := q.1) (q := q.2) hi h (by omega)
      · exact W.ne (a := q.1) (q := q.2) hi h (by omega)
    rw [upd_ne z]; exact x2
theorem Wr.drop (W : Wr F0 H0 L F H k) (j : Nat) : Wr F0 H0 (L.eraseIdx j) F H k :=
  ⟨W.gr, W.sm, W.lk, (List.Sublist.map _ (List.eraseIdx_sublist ..)).nodup W.nd, fun q hq => W.ow q (List.mem_of_mem_eraseIdx hq)⟩
theorem Wr.same (W : Wr F0 H0 L F H none) : Same F H := W.sm
/-- the frozen dict at d is locked -/
theorem Wr.lockF (W : Wr F0 H0 L F H none) (hd : F d = some u) (ud : isDct u = true) (od : Obj) : Wr F0 H0 L F (upd H d (.frz od u)) (some (d, od, u)) := by
  have hu : H d = some u := W.sm d u hd
  have e : unl (upd H d (.frz od u)) (some (d, od, u)) = H := by
    funext x
    show upd (upd H d (.frz od u)) d u x = H x
    rw [upd_upd]
    by_cases z : x = d
    · rw [z, upd_same, hu]
    · rw [upd_ne z]
  refine ⟨by rw [e]; exact W.gr, by rw [e]; exact W.sm, fun d' od' u' q => ?_, W.nd, fun p hp => ?_⟩
  · cases q
    exact ⟨upd_same, ud, hd⟩
  · obtain ⟨x1, x2, x3, x4⟩ := W.ow p hp
    exact ⟨x1, x2, by rw [upd_ne (fun z => by rw [z, hd] at x2; cases x2)]; exact x3, x4⟩
theorem Wr.unlockF (W : Wr F0 H0 L F H (some (d, od, u))) : Wr F0 H0 L F (upd H d u) none := by
  obtain ⟨h1, h2, h3⟩ := W.lk d od u rfl
  refine ⟨W.gr, W.sm, fun _ _ _ q => (by cases q), W.nd, fun p hp => ?_⟩
  obtain ⟨x1, x2, x3, x4⟩ := W.ow p hp
  exact ⟨x1, x2, by rw [upd_ne (fun z => by rw [z, h3] at x2; cases x2)]; exact x3, x4⟩
theorem isDct_notTup {o : HO} (h : isDct o = true) : notTup o = true := by
  cases o <;> first | rfl | cases h
end

/-! ### statements -/
section
variable {K : PySem.W.Frag} {F0 H0 F H F1 H1 : Hp} {L : List (Addr × HO)} {k : Lk} {σ : L2.St} {P : Pr} {te ta tb : TE} {D : Ends} {t u : TS}
theorem w_seq (h : t { D with nx := u D } σ H) : tSeq t u D σ H := h
theorem w_set (W : Wr F0 H0 L F H k) {i : Nat} (h : EvP te σ F H P) (c : ∀ v F1 H1, Gr F H F1 H1 → Wr F0 H0 L F1 H1 k → P F1 v → D.nx (σ.set i (some v)) H1) : tAsg te (gName i) D σ H :=
  h F H Gr.refl W.sub _ fun v F2 H2 g p => c v F2 H2 g (W.gro g) p
theorem w_drop (W : Wr F0 H0 L F H k) (h : EvP te σ F H P) (c : ∀ F1 H1, Gr F H F1 H1 → Wr F0 H0 L F1 H1 k → D.nx σ H1) : tDrop te D σ H :=
  h F H Gr.refl W.sub _ fun v F2 H2 g p => c F2 H2 g (W.gro g)
theorem w_ret (W : Wr F0 H0 L F H k) (h : EvP te σ F H P) (c : ∀ v F1 H1, Gr F H F1 H1 → Wr F0 H0 L F1 H1 k → P F1 v → D.rt v H1) : tRet te D σ H :=
  h F H Gr.refl W.sub _ fun v F2 H2 g p => c v F2 H2 g (W.gro g) p
theorem w_if (W : Wr F0 H0 L F H k) {tt : TT} {b : Bool} (h : EvT tt σ F H b) (c1 : b = true → ∀ F1 H1, Gr F H F1 H1 → Wr F0 H0 L F1 H1 k → t D σ H1) (c2 : b = false → ∀ F1 H1, Gr F H F1 H1 → Wr F0 H0 L F1 H1 k → u D σ H1) : tIfS tt t u D σ H :=
  h F H Gr.refl W.sub _ fun F2 H2 g => by
    cases b with
    | true => exact c1 rfl F2 H2 g (W.gro g)
    | false => exact c2 rfl F2 H2 g (W.gro g)
/-- x = [], a list of one's own -/
theorem w_newL (W : Wr F0 H0 L F H k) {i : Nat} (c : ∀ p H1, Wr F0 H0 ((p, .lst []) :: L) F H1 k → D.nx (σ.set i (some (.ref p))) H1) : tAsg (tLst tNil) (gName i) D σ H :=
  ⟨Nat.zero_le _, fun p hp => c p _ (W.new hp rfl)⟩
/-- x = {} -/
theorem w_newD {N : Type} [DecidableEq N] [nn : Nd N] (W : Wr F0 H0 L F H k) {i : Nat} (c : ∀ p H1, Wr F0 H0 ((p, Nd.dic ([] : List (N × V))) :: L) F H1 k → D.nx (σ.set i (some (.ref p))) H1) : tAsg nn.tnew (gName i) D σ H :=
  nn.tnew_eq σ H _ fun p hp => c p _ (W.new hp (isDct_notTup (Nd.dct _)))
/-- xs.append(e) on a list of one's own -/
theorem w_app (W : Wr F0 H0 L F H k) {j : Nat} {l : Addr} {xs : List V} (hj : L[j]? = some (l, .lst xs)) (ha : EvP ta σ F H (isV (.ref l))) (h : EvP te σ F H P) (hz : xs.length < 100000)
    (c : ∀ v F1 H1, Gr F H F1 H1 → Wr F0 H0 (L.set j (l, .lst (xs ++ [v]))) F1 (upd H1 l (.lst (xs ++ [v]))) k → P F1 v → D.nx σ (upd H1 l (.lst (xs ++ [v])))) : tDrop (tBM K "list" rAppend ta (tCons te tNil)) D σ H :=
  ha F H Gr.refl W.sub _ fun x F2 H2 g e => ⟨by
    obtain rfl : x = _ := e
    exact Or.inl ⟨rfl, _, SqL.of (g.ex _ _ (W.at hj))⟩, h F2 H2 g (W.sub.gr g) _ fun v F3 H3 g3 p => by
    obtain rfl : x = _ := e
    have W3 := W.gro (g.trans g3)
    exact ⟨l, xs, v, rfl, rfl, W3.at hj, Nat.lt_of_lt_of_le hz (by decide), c v F3 H3 (g.trans g3) (W3.set hj rfl) p⟩⟩
/-- d[k] = e on a dict of one's own -/
theorem w_dput {N : Type} [DecidableEq N] [Nd N] (W : Wr F0 H0 L F H k) {j : Nat} {d : Addr} {l : List (N × V)} {n : N} {td ty tv : TE} (hj : L[j]? = some (d, Nd.dic l)) (hn : (l.map (·.1)).Nodup) (hz : l.length < 100000)
    (hd : EvP td σ F H (isV (.ref d))) (hy : EvP ty σ F H (Nd.nd n)) (hv : EvP tv σ F H P) (m : Mn P)
    (c : ∀ v F1 H1, Gr F H F1 H1 → Wr F0 H0 (L.set j (d, Nd.dic (putA l n v))) F1 (upd H1 d (Nd.dic (putA l n v))) k → P F1 v → D.nx σ (upd H1 d (Nd.dic (putA l n v)))) : sDPut td ty tv D σ H :=
  hv F H Gr.refl W.sub _ fun v F2 H2 g2 pv => hd F2 H2 g2 (W.sub.gr g2) _ fun x F3 H3 g3 e => hy F3 H3 (g2.trans g3) ((W.sub.gr g2).gr g3) _ fun y F4 H4 g4 py => by
    obtain rfl : x = _ := e
    have g := (g2.trans g3).trans g4
    have W4 := W.gro g
    exact ⟨d, _, rfl, Nd.put (W4.at hj) hn W4.sub py (Nat.lt_of_lt_of_le hz (by decide)), c v F4 H4 g (W4.set hj (isDct_notTup (Nd.dct _))) (m.mn (g3.trans g4).fx pv)⟩
/-- reading a dict of one's own -/
theorem ev_dgetO {N : Type} [DecidableEq N] [Nd N] {d : Addr} {l : List (N × V)} {n : N} {ty : TE} {v : V} (h : H d = some (Nd.dic l)) (hd : EvP ta σ F H (isV (.ref d))) (hy : EvP ty σ F H (Nd.nd n)) (hl : luk l n = some v) : EvP (tDGet ta ty) σ F H (isV v) := fun F1 H1 g s Q q =>
  hd F1 H1 g s _ fun x F2 H2 g2 e => hy F2 H2 (g.trans g2) (s.gr g2) _ fun y F3 H3 g3 py => by
    obtain rfl : x = _ := e
    have hH := ((g.trans g2).trans g3).ex _ _ h
    have dg := Nd.get (.inl hH) ((s.gr g2).gr g3) py
    rw [hl] at dg
    exact ⟨d, v, rfl, dg, q v F3 H3 (g2.trans g3) rfl⟩
theorem ev_dinO {N : Type} [DecidableEq N] [Nd N] {d : Addr} {l : List (N × V)} {n : N} {ty : TE} (h : H d = some (Nd.dic l)) (hy : EvP ty σ F H (Nd.nd n)) (hd : EvP ta σ F H (isV (.ref d))) : EvP (tDIn ty ta) σ F H (isV (.bl (luk l n).isSome)) := fun F1 H1 g s Q q =>
  hy F1 H1 g s _ fun y F2 H2 g2 py => hd F2 H2 (g.trans g2) (s.gr g2) _ fun x F3 H3 g3 e => by
    obtain rfl : x = _ := e
    have hH := ((g.trans g2).trans g3).ex _ _ h
    exact ⟨d, _, rfl, Nd.get (.inl hH) ((s.gr g2).gr g3) ((Nd.mnd n).mn g3.fx py), q _ F3 H3 (g2.trans g3) rfl⟩
theorem ev_dninO {N : Type} [DecidableEq N] [Nd N] {d : Addr} {l : List (N × V)} {n : N} {ty : TE} (h : H d = some (Nd.dic l)) (hy : EvP ty σ F H (Nd.nd n)) (hd : EvP ta σ F H (isV (.ref d))) : EvP (tDNotIn ty ta) σ F H (isV (.bl (!(luk l n).isSome))) := fun F1 H1 g s Q q =>
  hy F1 H1 g s _ fun y F2 H2 g2 py => hd F2 H2 (g.trans g2) (s.gr g2) _ fun x F3 H3 g3 e => by
    obtain rfl : x = _ := e
    have hH := ((g.trans g2).trans g3).ex _ _ h
    exact ⟨d, _, rfl, Nd.get (.inl hH) ((s.gr g2).gr g3) ((Nd.mnd n).mn g3.fx py), q _ F3 H3 (g2.trans g3) rfl⟩
end
end EL

set_option Elab.async false
set_option linter.all false
set_option maxRecDepth 100000
set_option maxHeartbeats 1000000
namespace EL
open PySem PySem.Spec PyProof.Rows L2

/-- what a loop's turn is to reach: I at some later frozen part -/
def Nx (F1 : Hp) (I : Nat → L2.St → Hp → Hp → Prop) (i : Nat) (σ : L2.St) (H : Hp) : Prop := ∃ F, Same F1 F ∧ Sub F H ∧ I i σ F H
section
variable {K : PySem.W.Frag} {F0 H0 F H F1 H1 : Hp} {L : List (Addr × HO)} {k : Lk} {σ : L2.St} {P : Pr} {te tl : TE} {D : Ends} {tb : TS} {g : TG} {Ps : List Pr}
theorem w_forL (W : Wr F0 H0 L F H k) (h : EvP tl σ F H (isLst Ps)) (m : MnL Ps)
    (c : ∀ F1 H1, Gr F H F1 H1 → Wr F0 H0 L F1 H1 k → ∃ I : Nat → L2.St → Hp → Hp → Prop, I 0 σ F1 H1 ∧
      (∀ i P v σ' F' H', Ps[i]? = some P → P F' v → Same F1 F' → I i σ' F' H' → g v σ' H' fun σ2 H2 => tb { D with nx := Nx F1 I (i + 1), ct := Nx F1 I (i + 1), bk := D.nx } σ2 H2) ∧
      (∀ σ' F' H', Same F1 F' → I Ps.length σ' F' H' → D.nx σ' H')) : tFor (iList K tl) g tb D σ H :=
  h F H Gr.refl W.sub _ fun v F1 H1 g1 ⟨a, vs, e, hF, hp⟩ => by
    obtain ⟨I, i0, hs, hd⟩ := c F1 H1 g1 (W.gro g1)
    have W1 := W.gro g1
    refine ⟨a, e, ⟨vs, SqL.of (W1.sub.lst hF)⟩, for_list (K := K) (a := a) (xs := vs) (Nx F1 I) ⟨F1, Same.refl _, W1.sub, i0⟩ (fun i σ' H' _ ⟨F', s, sb, _⟩ => SqL.of (sb.lst (s _ _ hF))) ?_ ?_⟩
    · rintro i x σ' H' hi ⟨F', s, sb, ih⟩
      obtain ⟨P, h1, h2⟩ := (m.mn s hp).getV hi
      exact hs i P x σ' F' H' h1 h2 s ih
    · rintro σ' H' ⟨F', s, sb, ih⟩
      rw [hp.length] at ih
      exact hd σ' F' H' s ih
theorem w_forT (W : Wr F0 H0 L F H k) (h : EvP tl σ F H (isTup Ps)) (m : MnL Ps)
    (c : ∀ F1 H1, Gr F H F1 H1 → Wr F0 H0 L F1 H1 k → ∃ I : Nat → L2.St → Hp → Hp → Prop, I 0 σ F1 H1 ∧
      (∀ i P v σ' F' H', Ps[i]? = some P → P F' v → Same F1 F' → I i σ' F' H' → g v σ' H' fun σ2 H2 => tb { D with nx := Nx F1 I (i + 1), ct := Nx F1 I (i + 1), bk := D.nx } σ2 H2) ∧
      (∀ σ' F' H', Same F1 F' → I Ps.length σ' F' H' → D.nx σ' H')) : tFor (iTup K tl) g tb D σ H :=
  h F H Gr.refl W.sub _ fun v F1 H1 g1 ⟨a, vs, e, hF, hp⟩ => by
    obtain ⟨I, i0, hs, hd⟩ := c F1 H1 g1 (W.gro g1)
    have W1 := W.gro g1
    refine ⟨a, e, ⟨vs, SqT.of (W1.sub.tup hF)⟩, for_tup (K := K) (a := a) (xs := vs) (Nx F1 I) ⟨F1, Same.refl _, W1.sub, i0⟩ (fun i σ' H' _ ⟨F', s, sb, _⟩ => SqT.of (sb.tup (s _ _ hF))) ?_ ?_⟩
    · rintro i x σ' H' hi ⟨F', s, sb, ih⟩
      obtain ⟨P, h1, h2⟩ := (m.mn s hp).getV hi
      exact hs i P x σ' F' H' h1 h2 s ih
    · rintro σ' H' ⟨F', s, sb, ih⟩
      rw [hp.length] at ih
      exact hd σ' F' H' s ih
/-- the same, the list's items by data -/
theorem w_forLm {α : Type} {f : α → Pr} {xs : List α} (W : Wr F0 H0 L F H k) (h : EvP tl σ F H (isLst (xs.map f))) (m : ∀ x, Mn (f x))
    (c : ∀ F1 H1, Gr F H F1 H1 → Wr F0 H0 L F1 H1 k → ∃ I : Nat → L2.St → Hp → Hp → Prop, I 0 σ F1 H1 ∧
      (∀ i x v σ' F' H', xs[i]? = some x → f x F' v → Same F1 F' → I i σ' F' H' → g v σ' H' fun σ2 H2 => tb { D with nx := Nx F1 I (i + 1), ct := Nx F1 I (i + 1), bk := D.nx } σ2 H2) ∧
      (∀ σ' F' H', Same F1 F' → I xs.length σ' F' H' → D.nx σ' H')) : tFor (iList K tl) g tb D σ H := by
  refine w_forL W h (mnl_map m xs) fun F1 H1 g1 W1 => ?_
  obtain ⟨I, i0, hs, hd⟩ := c F1 H1 g1 W1
  refine ⟨I, i0, fun i P v σ' F' H' e => ?_, fun σ' F' H' s ih => hd σ' F' H' s (by rw [List.length_map] at ih; exact ih)⟩
  rw [List.getElem?_map] at e
  cases q : xs[i]? with
  | none => rw [q] at e; cases e
  | some x =>
    rw [q] at e
    cases e
    exact hs i x v σ' F' H' q
/-- over range(n) -/
theorem w_forR1 {ta : TA} {n : Int} (W : Wr F0 H0 L F H k) (h : EvA ta σ F H [isV (.int n)]) (hn : 0 ≤ n ∧ n ≤ 100000)
    (c : ∀ F1 H1, Gr F H F1 H1 → Wr F0 H0 L F1 H1 k → ∃ I : Nat → L2.St → Hp → Hp → Prop, I 0 σ F1 H1 ∧
      (∀ (i : Nat) σ' F' H', (i : Int) < n → Same F1 F' → I i σ' F' H' → g (.int i) σ' H' fun σ2 H2 => tb { D with nx := Nx F1 I (i + 1), ct := Nx F1 I (i + 1), bk := D.nx } σ2 H2) ∧
      (∀ σ' F' H', Same F1 F' → I n.toNat σ' F' H' → D.nx σ' H')) : tFor (iRng1 ta) g tb D σ H :=
  h F H Gr.refl W.sub _ fun vs F1 H1 g1 hp => by
    obtain ⟨I, i0, hs, hd⟩ := c F1 H1 g1 (W.gro g1)
    have W1 := W.gro g1
    have e : vs = [.int n] := PrL.isVs (ws := [.int n]) hp
    refine ⟨n, e, by omega, by omega, for_range (lo := 0) (n := n.toNat) (Nx F1 I) ⟨F1, Same.refl _, W1.sub, i0⟩ ?_ ?_⟩
    · rintro i σ' H' hi ⟨F', s, sb, ih⟩
      have e0 : (0 : Int) + (i : Int) = (i : Int) := Int.zero_add _
      rw [e0]
      exact hs i σ' F' H' (by omega) s ih
    · rintro σ' H' ⟨F', s, sb, ih⟩
      exact hd σ' F' H' s ih
theorem w_forR2 {ta : TA} {lo n : Int} (W : Wr F0 H0 L F H k) (h : EvA ta σ F H [isV (.int lo), isV (.int n)]) (hn : 0 ≤ lo ∧ lo ≤ 100000 ∧ -100000 ≤ n ∧ n ≤ 100000)
    (c : ∀ F1 H1, Gr F H F1 H1 → Wr F0 H0 L F1 H1 k → ∃ I : Nat → L2.St → Hp → Hp → Prop, I 0 σ F1 H1 ∧
      (∀ (i : Nat) σ' F' H', lo + (i : Int) < n → Same F1 F' → I i σ' F' H' → g (.int (lo + i)) σ' H' fun σ2 H2 => tb { D with nx := Nx F1 I (i + 1), ct := Nx F1 I (i + 1), bk := D.nx } σ2 H2) ∧
      (∀ σ' F' H', Same F1 F' → I (n - lo).toNat σ' F' H' → D.nx σ' H')) : tFor (iRng2 ta) g tb D σ H :=
  h F H Gr.refl W.sub _ fun vs F1 H1 g1 hp => by
    obtain ⟨I, i0, hs, hd⟩ := c F1 H1 g1 (W.gro g1)
    have W1 := W.gro g1
    have e : vs = [.int lo, .int n] := PrL.isVs (ws := [.int lo, .int n]) hp
    refine ⟨lo, n, e, ⟨by omega, by omega, by omega, by omega⟩, for_range (lo := lo) (n := (n - lo).toNat) (Nx F1 I) ⟨F1, Same.refl _, W1.sub, i0⟩ ?_ ?_⟩
    · rintro i σ' H' hi ⟨F', s, sb, ih⟩
      exact hs i σ' F' H' (by omega) s ih
    · rintro σ' H' ⟨F', s, sb, ih⟩
      exact hd σ' F' H' s ih
/-- for x in a text -/
theorem w_forS {te : TE} {x : Str} (W : Wr F0 H0 L F H k) (h : EvP te σ F H (isV (.str x)))
    (c : ∀ F1 H1, Gr F H F1 H1 → Wr F0 H0 L F1 H1 k → ∃ I : Nat → L2.St → Hp → Hp → Prop, I 0 σ F1 H1 ∧
      (∀ (i : Nat) c σ' F' H', x.cps[i]? = some c → Same F1 F' → I i σ' F' H' → g (.str ⟨#[c]⟩) σ' H' fun σ2 H2 => tb { D with nx := Nx F1 I (i + 1), ct := Nx F1 I (i + 1), bk := D.nx } σ2 H2) ∧
      (∀ σ' F' H', Same F1 F' → I x.cps.size σ' F' H' → D.nx σ' H')) : tFor (iStr te) g tb D σ H :=
  h F H Gr.refl W.sub _ fun v F1 H1 g1 hp => by
    obtain ⟨I, i0, hs, hd⟩ := c F1 H1 g1 (W.gro g1)
    have W1 := W.gro g1
    refine ⟨x, hp, fun i m σ' H' => m = x.cps.size - i ∧ i ≤ x.cps.size ∧ Nx F1 I i σ' H', ⟨x.cps.size, rfl, Nat.zero_le _, ⟨F1, Same.refl _, W1.sub, i0⟩⟩, ?_⟩
    rintro i m σ' H' ⟨rfl, hi, ⟨F', s, sb, ih⟩⟩
    by_cases hlt : i < x.cps.size
    · refine .inr ⟨hlt, Nx F1 I (i + 1), fun σ2 H2 p' => ⟨x.cps.size - (i + 1), by omega, rfl, hlt, p'⟩, fun y H2 yl => ?_⟩
      obtain ⟨e, ch, hc, e2⟩ := yl
      subst e e2
      exact hs i ch σ' F' _ hc s ih
    · have e : i = x.cps.size := by omega
      subst e
      exact .inl ⟨Nat.le_refl _, hd σ' F' H' s ih⟩
/-- the ends of a statement that runs while d is locked -/
def LkE (d : Addr) (od : Obj) (u : HO) (D : Ends) : Ends := ⟨fun σ' H' => H' d = some (.frz od u) ∧ D.nx σ' (upd H' d u), fun v H' => H' d = some (.frz od u) ∧ D.rt v (upd H' d u), fun σ' H' => H' d = some (.frz od u) ∧ D.bk σ' (upd H' d u), fun σ' H' => H' d = some (.frz od u) ∧ D.ct σ' (upd H' d u)⟩
/-- the turns over a locked dict -/
theorem keys_turns {N : Type} [DecidableEq N] [nn : Nd N] {d : Addr} {od : Obj} {l : List (N × V)} {j : Nat} (hv : σ[j]? = some (some (.ref d))) (hH : H d = some (.frz od (Nd.dic l))) (I : Nat → L2.St → Hp → Hp → Prop) (sF : Sub F H) (i0 : I 0 σ F H)
    (lk : ∀ i σ' F' H', I i σ' F' H' → H' d = some (.frz od (Nd.dic l)))
    (hs : ∀ i n w v σ' F' F2 H', l[i]? = some (n, w) → Same F F' → I i σ' F' H' → Gr F' H' F2 H' → Nd.nd n F2 v → g v σ' H' fun σ2 H2 => tb { D with nx := Nx F I (i + 1), ct := Nx F I (i + 1), bk := D.nx } σ2 H2)
    (he : ∀ σ' F' H', Same F F' → I l.length σ' F' H' → D.nx σ' H') : tFor (iKeys (tVar j)) g tb D σ H := by
  refine nn.keys hv hH fun J go stop yld => ?_
  refine ⟨fun i m σ' H' => m = l.length - i ∧ i ≤ l.length ∧ Nx F I i σ' H', ⟨l.length, rfl, Nat.zero_le _, ⟨F, Same.refl _, sF, i0⟩⟩, ?_⟩
  rintro i m σ' H' ⟨rfl, hi, ⟨F', s, sb, ih⟩⟩
  have e1 := lk i σ' F' H' ih
  by_cases hlt : i < l.length
  · refine .inr ⟨go i H' e1 hlt, Nx F I (i + 1), fun σ2 H2 p' => ⟨l.length - (i + 1), by omega, rfl, hlt, p'⟩, fun y H2 yl => ?_⟩
    obtain ⟨e, n, w, h1, h2⟩ := yld i H' y H2 yl
    subst e
    obtain ⟨F2, g2, h3⟩ := h2 F' sb
    exact hs i n w y σ' F' F2 _ h1 s ih g2 h3
  · have e : i = l.length := by omega
    subst e
    exact .inl ⟨stop _ H' e1 (Nat.le_refl _), he σ' F' H' s ih⟩
/-- for n in a frozen dict: locked the while -/
theorem w_forK {N : Type} [DecidableEq N] [nn : Nd N] {j : Nat} {d : Addr} {l : List (N × V)} (W : Wr F0 H0 L F H none) (hv : σ[j]? = some (some (.ref d))) (hd : F d = some (Nd.dic l))
    (c : ∀ od, Wr F0 H0 L F (upd H d (.frz od (Nd.dic l))) (some (d, od, Nd.dic l)) → ∃ I : Nat → L2.St → Hp → Hp → Prop, I 0 σ F (upd H d (.frz od (Nd.dic l))) ∧
      (∀ i σ' F' H', I i σ' F' H' → H' d = some (.frz od (Nd.dic l))) ∧
      (∀ i n w v σ' F' F2 H', l[i]? = some (n, w) → Same F F' → I i σ' F' H' → Gr F' H' F2 H' → Nd.nd n F2 v → g v σ' H' fun σ2 H2 => tb { LkE d od (Nd.dic l) D with nx := Nx F I (i + 1), ct := Nx F I (i + 1), bk := (LkE d od (Nd.dic l) D).nx } σ2 H2) ∧
      (∀ σ' F' H', Same F F' → I l.length σ' F' H' → D.nx σ' (upd H' d (Nd.dic l)))) : tLock (tFor (iKeys (tVar j)) g tb) D σ H := by
  refine ⟨d, Nd.dic l, W.sm _ _ hd, Nd.mt _, fun od => ?_⟩
  have W1 := W.lockF hd (Nd.dct _) od
  obtain ⟨I, i0, lk, hs, he⟩ := c od W1
  exact keys_turns (D := LkE d od (Nd.dic l) D) hv upd_same I W1.sub i0 lk hs fun σ' F' H' s ih => ⟨lk _ _ _ _ ih, he σ' F' H' s ih⟩
/-- for n in a dict of one's own -/
theorem w_forKO {N : Type} [DecidableEq N] [nn : Nd N] {j i0 : Nat} {d : Addr} {l : List (N × V)} (W : Wr F0 H0 L F H none) (hv : σ[j]? = some (some (.ref d))) (hd : L[i0]? = some (d, Nd.dic l))
    (c : ∀ od, Wr F0 H0 (L.set i0 (d, .frz od (Nd.dic l))) F (upd H d (.frz od (Nd.dic l))) none → ∃ I : Nat → L2.St → Hp → Hp → Prop, I 0 σ F (upd H d (.frz od (Nd.dic l))) ∧
      (∀ i σ' F' H', I i σ' F' H' → H' d = some (.frz od (Nd.dic l))) ∧
      (∀ i n w v σ' F' F2 H', l[i]? = some (n, w) → Same F F' → I i σ' F' H' → Gr F' H' F2 H' → Nd.nd n F2 v → g v σ' H' fun σ2 H2 => tb { LkE d od (Nd.dic l) D with nx := Nx F I (i + 1), ct := Nx F I (i + 1), bk := (LkE d od (Nd.dic l) D).nx } σ2 H2) ∧
      (∀ σ' F' H', Same F F' → I l.length σ' F' H' → D.nx σ' (upd H' d (Nd.dic l)))) : tLock (tFor (iKeys (tVar j)) g tb) D σ H := by
  refine ⟨d, Nd.dic l, W.at hd, Nd.mt _, fun od => ?_⟩
  have W1 := W.set hd (u := .frz od (Nd.dic l)) rfl
  obtain ⟨I, i0, lk, hs, he⟩ := c od W1
  exact keys_turns (D := LkE d od (Nd.dic l) D) hv upd_same I W1.sub i0 lk hs fun σ' F' H' s ih => ⟨lk _ _ _ _ ih, he σ' F' H' s ih⟩
/-- while: I by a measure -/
def Nw (m : Nat) (I : Nat → L2.St → Hp → Hp → Prop) (σ : L2.St) (H : Hp) : Prop := ∃ m' F, m' < m ∧ Sub F H ∧ I m' σ F H
theorem w_while {tc : TT} (I : Nat → L2.St → Hp → Hp → Prop) (s0 : Sub F H) (m0 : Nat) (i0 : I m0 σ F H)
    (hs : ∀ m σ' F' H', Sub F' H' → I m σ' F' H' → ∃ b, EvT tc σ' F' H' b ∧ (b = true → ∀ F1 H1, Gr F' H' F1 H1 → tb { D with nx := Nw m I, ct := Nw m I, bk := D.nx } σ' H1) ∧ (b = false → ∀ F1 H1, Gr F' H' F1 H1 → D.nx σ' H1)) : tWhile tc tb D σ H := by
  refine ⟨fun m σ' H' => ∃ F', Sub F' H' ∧ I m σ' F' H', ⟨m0, F, s0, i0⟩, ?_⟩
  rintro m σ' H' ⟨F', s, ih⟩
  obtain ⟨b, hb, h1, h2⟩ := hs m σ' F' H' s ih
  refine hb F' H' Gr.refl s _ fun F2 H2 g2 => ?_
  cases b with
  | true =>
    rw [if_pos rfl]
    exact ⟨Nw m I, fun σ3 H3 ⟨m', F3, l, s3, i3⟩ => ⟨m', l, F3, s3, i3⟩, h1 rfl F2 H2 g2⟩
  | false =>
    rw [if_neg Bool.false_ne_true]
    exact h2 rfl F2 H2 g2
end

/-! ### defs and their calls -/
def Ret (F H : Hp) (P : Pr) (Q : VK) : Prop := ∀ v F' H', Gr F H F' H' → P F' v → Q v H'
section
variable {P : Program} {w : World} {K : PySem.W.Frag} {mg : Str → Option Value} {base : Heap}
/-- a def of the top, as its callers use it -/
structure Cal (P : Program) (w : World) (K : PySem.W.Frag) (mg : Str → Option Value) (base : Heap) (k : Nat) (x : Str) (ps : List Str) (sp : Sp) : Prop where
  fn : ∃ fd, FnOk P w K mg base CX0 k (He.ga K x) fd ps sp ∧ Binds K fd ps []
  mg : mg x = some (.ref (He.ga K x))
  kp : PySem.W.keepIn K (.ref (He.ga K x)) = true
theorem Cal.mono {j k : Nat} {x : Str} {ps : List Str} {sp : Sp} (c : Cal P w K mg base j x ps sp) (h : j ≤ k) : Cal P w K mg base k x ps sp := by
  obtain ⟨fd, F, b⟩ := c.fn
  exact ⟨⟨fd, F.mono h, b⟩, c.mg, c.kp⟩
theorem pe_cal {X : Cx} {k : Nat} {x : Str} {ps : List Str} {sp : Sp} {p pos : Pos} {e : Expr} {es : List Expr} {t : TA} (C : Cal X.prog X.w X.K X.mg X.base k x ps sp) (hr : Room k X.A) (hg : Gl X x) (ha : PA X (e :: es) t)
    (hd : (x == ("__debug__" : Str)) = false := by decide) (h2 : starEach (e :: es) X.env = (false, eval e X.env) :: starEach es X.env := by rfl) (h3 : (backTo pos (starEach es X.env)).any (·.1) = false := by rfl) :
    PE X (.Call (.Name x p) (e :: es) [] pos) (tCall sp [] E0 t) := by
  obtain ⟨fd, F, b⟩ := C.fn
  exact pe_call F hr hg C.mg C.kp b .nil pass0 ha hd h2 h3
variable {σ : L2.St} {F H : Hp} {Ps : List Pr} {R : Pr} {ta : TA} {te to : TE} {sp : Sp}
theorem ev_call (sm : Same F H) (h : EvA ta σ F H Ps) (hs : ∀ F1 H1 vs Q, Gr F H F1 H1 → Same F1 H1 → PrL F1 Ps vs → Ret F1 H1 R Q → sp vs H1 Q E0) : EvP (tCall sp [] E0 ta) σ F H R := fun F1 H1 g s Q q =>
  h F1 H1 g s _ fun vs F2 H2 g2 ps => by
    rw [List.append_nil]
    have gg := g.trans g2
    exact hs F2 H2 vs Q gg (Gr.same sm gg) ps fun v F3 H3 g3 p => q v F3 H3 (g2.trans g3) p
/-- a method of the class's -/
structure Cam (P : Program) (w : World) (K : PySem.W.Frag) (mg : Str → Option Value) (base : Heap) (k : Nat) (m : Str) (ps : List Str) (sp : Sp) : Prop where
  fn : ∃ f fd, FnOk P w K mg base CX0 k f fd ps sp ∧ Binds K fd ps [] ∧ Meth K (He.ga K "Machine") m f
  cl : Cls K (He.ga K "Machine")
theorem Cam.mono {j k : Nat} {x : Str} {ps : List Str} {sp : Sp} (c : Cam P w K mg base j x ps sp) (h : j ≤ k) : Cam P w K mg base k x ps sp := by
  obtain ⟨f, fd, F, b, m⟩ := c.fn
  exact ⟨⟨f, fd, F.mono h, b, m⟩, c.cl⟩
end
end EL

set_option Elab.async false
set_option linter.all false
set_option maxRecDepth 100000
set_option maxHeartbeats 1000000
namespace EL
open PySem PySem.Spec PyProof.Rows L2
/-- what the top has left -/
structure Tops (K : PySem.W.Frag) (mg : Str → Option Value) : Prop where
  ex : ∃ h : Heap, K.In h ∧ h.Ns mainGlobals mg
  c : He.SaysD fa fn K
abbrev MC (K : PySem.W.Frag) : Addr := He.ga K "Machine"
section
variable {K : PySem.W.Frag} {mg : Str → Option Value} (E : Tops K mg)
include E
theorem Tops.glo (i : Nat) {x : Str} (h : fa[i]? = some (.glo x) := by rfl) : mg x = some (.ref (He.ga K x)) := by
  obtain ⟨_, X, G⟩ := E.ex
  exact He.glo_ok X G (E.c.fact i h)
theorem Tops.free (i : Nat) {x : Str} (h : fa[i]? = some (.free x) := by rfl) : mg x = none := by
  obtain ⟨_, X, G⟩ := E.ex
  exact He.free_ok X G (E.c.fact i h)
theorem Tops.int (i : Nat) {x : Str} {n : Int} (h : fa[i]? = some (.int x n) := by rfl) : ∃ t, mg x = some (.int n t) := by
  obtain ⟨_, X, G⟩ := E.ex
  exact He.int_ok X G (E.c.fact i h)
theorem Tops.str (i : Nat) {x z : Str} (h : fa[i]? = some (.str x z) := by rfl) : ∃ t, mg x = some (.str z t) := by
  obtain ⟨_, X, G⟩ := E.ex
  exact He.str_ok X G (E.c.fact i h)
theorem Tops.g_finish_order : mg "finish_order" = some (.ref (He.ga K "finish_order")) := E.glo 0
theorem Tops.g_strong_parts : mg "strong_parts" = some (.ref (He.ga K "strong_parts")) := E.glo 1
theorem Tops.g_path_between : mg "path_between" = some (.ref (He.ga K "path_between")) := E.glo 2
theorem Tops.g_passes : mg "passes" = some (.ref (He.ga K "passes")) := E.glo 3
theorem Tops.g_closed_walk : mg "closed_walk" = some (.ref (He.ga K "closed_walk")) := E.glo 4
theorem Tops.g_cycle_through : mg "cycle_through" = some (.ref (He.ga K "cycle_through")) := E.glo 5
theorem Tops.g_bounded : mg "bounded" = some (.ref (He.ga K "bounded")) := E.glo 6
theorem Tops.g_cycle_with : mg "cycle_with" = some (.ref (He.ga K "cycle_with")) := E.glo 7
theorem Tops.g_is_alphabet : mg "is_alphabet" = some (.ref (He.ga K "is_alphabet")) := E.glo 8
theorem Tops.g_need_alphabet : mg "need_alphabet" = some (.ref (He.ga K "need_alphabet")) := E.glo 9
theorem Tops.g_need_row : mg "need_row" = some (.ref (He.ga K "need_row")) := E.glo 10
theorem Tops.g_is_state : mg "is_state" = some (.ref (He.ga K "is_state")) := E.glo 11
theorem Tops.g_shortest_cycle : mg "shortest_cycle" = some (.ref (He.ga K "shortest_cycle")) := E.glo 12
theorem Tops.g_shortened : mg "shortened" = some (.ref (He.ga K "shortened")) := E.glo 13
theorem Tops.g_need_same_letters : mg "need_same_letters" = some (.ref (He.ga K "need_same_letters")) := E.glo 14
theorem Tops.g_shifted : mg "shifted" = some (.ref (He.ga K "shifted")) := E.glo 15
theorem Tops.g_complement : mg "complement" = some (.ref (He.ga K "complement")) := E.glo 16
theorem Tops.g_behaviours : mg "behaviours" = some (.ref (He.ga K "behaviours")) := E.glo 17
theorem Tops.g_minimized : mg "minimized" = some (.ref (He.ga K "minimized")) := E.glo 18
theorem Tops.g_joint_edges : mg "joint_edges" = some (.ref (He.ga K "joint_edges")) := E.glo 19
theorem Tops.g_row_along : mg "row_along" = some (.ref (He.ga K "row_along")) := E.glo 20
theorem Tops.g_difference : mg "difference" = some (.ref (He.ga K "difference")) := E.glo 21
theorem Tops.g_machine_edges : mg "machine_edges" = some (.ref (He.ga K "machine_edges")) := E.glo 22
theorem Tops.g_greatest_in : mg "greatest_in" = some (.ref (He.ga K "greatest_in")) := E.glo 23
theorem Tops.g_parts_of : mg "parts_of" = some (.ref (He.ga K "parts_of")) := E.glo 24
theorem Tops.g_below : mg "below" = some (.ref (He.ga K "below")) := E.glo 25
theorem Tops.g_raised_length : mg "raised_length" = some (.ref (He.ga K "raised_length")) := E.glo 26
theorem Tops.g_longest_in : mg "longest_in" = some (.ref (He.ga K "longest_in")) := E.glo 27
theorem Tops.g_longest : mg "longest" = some (.ref (He.ga K "longest")) := E.glo 28
theorem Tops.g_chain_length : mg "chain_length" = some (.ref (He.ga K "chain_length")) := E.glo 29
theorem Tops.g_fewest_priorities : mg "fewest_priorities" = some (.ref (He.ga K "fewest_priorities")) := E.glo 30
theorem Tops.g_labelled : mg "labelled" = some (.ref (He.ga K "labelled")) := E.glo 31
theorem Tops.g_relabel : mg "relabel" = some (.ref (He.ga K "relabel")) := E.glo 32
theorem Tops.g__law_bag : mg "_law_bag" = some (.ref (He.ga K "_law_bag")) := E.glo 33
theorem Tops.g__law_pull : mg "_law_pull" = some (.ref (He.ga K "_law_pull")) := E.glo 34
theorem Tops.g__law_of : mg "_law_of" = some (.ref (He.ga K "_law_of")) := E.glo 35
theorem Tops.g__law_letters : mg "_law_letters" = some (.ref (He.ga K "_law_letters")) := E.glo 36
theorem Tops.g__law_made : mg "_law_made" = some (.ref (He.ga K "_law_made")) := E.glo 37
theorem Tops.g__law_raw : mg "_law_raw" = some (.ref (He.ga K "_law_raw")) := E.glo 38
theorem Tops.g__law_word : mg "_law_word" = some (.ref (He.ga K "_law_word")) := E.glo 39
theorem Tops.g__law_row : mg "_law_row" = some (.ref (He.ga K "_law_row")) := E.glo 40
theorem Tops.g_law : mg "law" = some (.ref (He.ga K "law")) := E.glo 41
theorem Tops.g_Machine : mg "Machine" = some (.ref (He.ga K "Machine")) := E.glo 42
theorem Tops.cls : Cls K (MC K) := He.cls_ok (E.c.fact 43 (f := .cls "Machine") rfl)
theorem Tops.mkr : Mk K (MC K) (He.ma K (MC K) "__init__") := He.mkr_ok (E.c.fact 44 (f := .mkr "Machine") rfl)
theorem Tops.na_alphabet : NoAttr K (MC K) "alphabet" := He.noat_ok (E.c.fact 45 (f := .noat "Machine" "alphabet") rfl)
theorem Tops.na_table : NoAttr K (MC K) "table" := He.noat_ok (E.c.fact 46 (f := .noat "Machine" "table") rfl)
theorem Tops.na_first : NoAttr K (MC K) "first" := He.noat_ok (E.c.fact 47 (f := .noat "Machine" "first") rfl)
theorem Tops.m_letters : Meth K (MC K) "letters" (He.ma K (MC K) "letters") := He.meth_ok (E.c.fact 48 (f := .meth "Machine" "letters") rfl)
theorem Tops.m_states : Meth K (MC K) "states" (He.ma K (MC K) "states") := He.meth_ok (E.c.fact 49 (f := .meth "Machine" "states") rfl)
theorem Tops.m_start : Meth K (MC K) "start" (He.ma K (MC K) "start") := He.meth_ok (E.c.fact 50 (f := .meth "Machine" "start") rfl)
theorem Tops.m_step : Meth K (MC K) "step" (He.ma K (MC K) "step") := He.meth_ok (E.c.fact 51 (f := .meth "Machine" "step") rfl)
theorem Tops.m_reachable : Meth K (MC K) "reachable" (He.ma K (MC K) "reachable") := He.meth_ok (E.c.fact 52 (f := .meth "Machine" "reachable") rfl)
theorem Tops.m_accepts : Meth K (MC K) "accepts" (He.ma K (MC K) "accepts") := He.meth_ok (E.c.fact 53 (f := .meth "Machine" "accepts") rfl)
theorem Tops.i_MAX_LETTERS : ∃ t, mg "MAX_LETTERS" = some (.int 3 t) := E.int 54
theorem Tops.i_MAX_STATES : ∃ t, mg "MAX_STATES" = some (.int 5 t) := E.int 55
theorem Tops.i_MAX_PRIORITY : ∃ t, mg "MAX_PRIORITY" = some (.int 3 t) := E.int 56
theorem Tops.s_LOWERCASE : ∃ t, mg "LOWERCASE" = some (.str "abcdefghijklmnopqrstuvwxyz" t) := E.str 57
theorem Tops.n_len : mg "len" = none := E.free 58
theorem Tops.n_all : mg "all" = none := E.free 59
theorem Tops.n_any : mg "any" = none := E.free 60
theorem Tops.n_range : mg "range" = none := E.free 61
theorem Tops.n_enumerate : mg "enumerate" = none := E.free 62
theorem Tops.n_zip : mg "zip" = none := E.free 63
theorem Tops.n_sorted : mg "sorted" = none := E.free 64
theorem Tops.n_max : mg "max" = none := E.free 65
theorem Tops.n_int : mg "int" = none := E.free 66
theorem Tops.n_dict : mg "dict" = none := E.free 67
theorem Tops.n_tuple : mg "tuple" = none := E.free 68
theorem Tops.n_list : mg "list" = none := E.free 69
theorem Tops.f_FinishOrder : ∃ fd, FunD K "finish_order" "finish_order" (defArgs sFinishOrder) (defBody sFinishOrder) (defScope sFinishOrder) [] [] (He.ga K "finish_order") fd := E.c.def_ 0 (d := dFinishOrder) rfl
theorem Tops.f_StrongParts : ∃ fd, FunD K "strong_parts" "strong_parts" (defArgs sStrongParts) (defBody sStrongParts) (defScope sStrongParts) [] [] (He.ga K "strong_parts") fd := E.c.def_ 1 (d := dStrongParts) rfl
theorem Tops.f_PathBetween : ∃ fd, FunD K "path_between" "path_between" (defArgs sPathBetween) (defBody sPathBetween) (defScope sPathBetween) [] [] (He.ga K "path_between") fd := E.c.def_ 2 (d := dPathBetween) rfl
theorem Tops.f_Passes : ∃ fd, FunD K "passes" "passes" (defArgs sPasses) (defBody sPasses) (defScope sPasses) [] [] (He.ga K "passes") fd := E.c.def_ 3 (d := dPasses) rfl
theorem Tops.f_ClosedWalk : ∃ fd, FunD K "closed_walk" "closed_walk" (defArgs sClosedWalk) (defBody sClosedWalk) (defScope sClosedWalk) [] [] (He.ga K "closed_walk") fd := E.c.def_ 4 (d := dClosedWalk) rfl
theorem Tops.f_CycleThrough : ∃ fd, FunD K "cycle_through" "cycle_through" (defArgs sCycleThrough) (defBody sCycleThrough) (defScope sCycleThrough) [] [] (He.ga K "cycle_through") fd := E.c.def_ 5 (d := dCycleThrough) rfl
theorem Tops.f_Bounded : ∃ fd, FunD K "bounded" "bounded" (defArgs sBounded) (defBody sBounded) (defScope sBounded) [] [] (He.ga K "bounded") fd := E.c.def_ 6 (d := dBounded) rfl
theorem Tops.f_CycleWith : ∃ fd, FunD K "cycle_with" "cycle_with" (defArgs sCycleWith) (defBody sCycleWith) (defScope sCycleWith) [] [] (He.ga K "cycle_with") fd := E.c.def_ 7 (d := dCycleWith) rfl
theorem Tops.f_IsAlphabet : ∃ fd, FunD K "is_alphabet" "is_alphabet" (defArgs sIsAlphabet) (defBody sIsAlphabet) (defScope sIsAlphabet) [] [] (He.ga K "is_alphabet") fd := E.c.def_ 8 (d := dIsAlphabet) rfl
theorem Tops.f_NeedAlphabet : ∃ fd, FunD K "need_alphabet" "need_alphabet" (defArgs sNeedAlphabet) (defBody sNeedAlphabet) (defScope sNeedAlphabet) [] [] (He.ga K "need_alphabet") fd := E.c.def_ 9 (d := dNeedAlphabet) rfl
theorem Tops.f_NeedRow : ∃ fd, FunD K "need_row" "need_row" (defArgs sNeedRow) (defBody sNeedRow) (defScope sNeedRow) [] [] (He.ga K "need_row") fd := E.c.def_ 10 (d := dNeedRow) rfl
theorem Tops.f_IsState : ∃ fd, FunD K "is_state" "is_state" (defArgs sIsState) (defBody sIsState) (defScope sIsState) [] [] (He.ga K "is_state") fd := E.c.def_ 11 (d := dIsState) rfl
theorem Tops.f_MInit : ∃ fd, FunD K "__init__" "Machine.__init__" (defArgs sMInit) (defBody sMInit) (defScope sMInit) [] [("start", V.int 0)] (He.ma K (MC K) "__init__") fd := E.c.def_ 12 (d := dMInit) rfl
theorem Tops.f_MLetters : ∃ fd, FunD K "letters" "Machine.letters" (defArgs sMLetters) (defBody sMLetters) (defScope sMLetters) [] [] (He.ma K (MC K) "letters") fd := E.c.def_ 13 (d := dMLetters) rfl
theorem Tops.f_MStates : ∃ fd, FunD K "states" "Machine.states" (defArgs sMStates) (defBody sMStates) (defScope sMStates) [] [] (He.ma K (MC K) "states") fd := E.c.def_ 14 (d := dMStates) rfl
theorem Tops.f_MStart : ∃ fd, FunD K "start" "Machine.start" (defArgs sMStart) (defBody sMStart) (defScope sMStart) [] [] (He.ma K (MC K) "start") fd := E.c.def_ 15 (d := dMStart) rfl
theorem Tops.f_MStep : ∃ fd, FunD K "step" "Machine.step" (defArgs sMStep) (defBody sMStep) (defScope sMStep) [] [] (He.ma K (MC K) "step") fd := E.c.def_ 16 (d := dMStep) rfl
theorem Tops.f_MReachable : ∃ fd, FunD K "reachable" "Machine.reachable" (defArgs sMReachable) (defBody sMReachable) (defScope sMReachable) [] [] (He.ma K (MC K) "reachable") fd := E.c.def_ 17 (d := dMReachable) rfl
theorem Tops.f_MAccepts : ∃ fd, FunD K "accepts" "Machine.accepts" (defArgs sMAccepts) (defBody sMAccepts) (defScope sMAccepts) [] [] (He.ma K (MC K) "accepts") fd := E.c.def_ 18 (d := dMAccepts) rfl
theorem Tops.f_ShortestCycle : ∃ fd, FunD K "shortest_cycle" "shortest_cycle" (defArgs sShortestCycle) (defBody sShortestCycle) (defScope sShortestCycle) [] [] (He.ga K "shortest_cycle") fd := E.c.def_ 19 (d := dShortestCycle) rfl
theorem Tops.f_Shortened : ∃ fd, FunD K "shortened" "shortened" (defArgs sShortened) (defBody sShortened) (defScope sShortened) [] [] (He.ga K "shortened") fd := E.c.def_ 20 (d := dShortened) rfl
theorem Tops.f_NeedSameLetters : ∃ fd, FunD K "need_same_letters" "need_same_letters" (defArgs sNeedSameLetters) (defBody sNeedSameLetters) (defScope sNeedSameLetters) [] [] (He.ga K "need_same_letters") fd := E.c.def_ 21 (d := dNeedSameLetters) rfl
theorem Tops.f_Shifted : ∃ fd, FunD K "shifted" "shifted" (defArgs sShifted) (defBody sShifted) (defScope sShifted) [] [] (He.ga K "shifted") fd := E.c.def_ 22 (d := dShifted) rfl
theorem Tops.f_Complement : ∃ fd, FunD K "complement" "complement" (defArgs sComplement) (defBody sComplement) (defScope sComplement) [] [] (He.ga K "complement") fd := E.c.def_ 23 (d := dComplement) rfl
theorem Tops.f_Behaviours : ∃ fd, FunD K "behaviours" "behaviours" (defArgs sBehaviours) (defBody sBehaviours) (defScope sBehaviours) [] [] (He.ga K "behaviours") fd := E.c.def_ 24 (d := dBehaviours) rfl
theorem Tops.f_Minimized : ∃ fd, FunD K "minimized" "minimized" (defArgs sMinimized) (defBody sMinimized) (defScope sMinimized) [] [] (He.ga K "minimized") fd := E.c.def_ 25 (d := dMinimized) rfl
theorem Tops.f_JointEdges : ∃ fd, FunD K "joint_edges" "joint_edges" (defArgs sJointEdges) (defBody sJointEdges) (defScope sJointEdges) [] [] (He.ga K "joint_edges") fd := E.c.def_ 26 (d := dJointEdges) rfl
theorem Tops.f_RowAlong : ∃ fd, FunD K "row_along" "row_along" (defArgs sRowAlong) (defBody sRowAlong) (defScope sRowAlong) [] [] (He.ga K "row_along") fd := E.c.def_ 27 (d := dRowAlong) rfl
theorem Tops.f_Difference : ∃ fd, FunD K "difference" "difference" (defArgs sDifference) (defBody sDifference) (defScope sDifference) [] [] (He.ga K "difference") fd := E.c.def_ 28 (d := dDifference) rfl
theorem Tops.f_MachineEdges : ∃ fd, FunD K "machine_edges" "machine_edges" (defArgs sMachineEdges) (defBody sMachineEdges) (defScope sMachineEdges) [] [] (He.ga K "machine_edges") fd := E.c.def_ 29 (d := dMachineEdges) rfl
theorem Tops.f_GreatestIn : ∃ fd, FunD K "greatest_in" "greatest_in" (defArgs sGreatestIn) (defBody sGreatestIn) (defScope sGreatestIn) [] [] (He.ga K "greatest_in") fd := E.c.def_ 30 (d := dGreatestIn) rfl
theorem Tops.f_PartsOf : ∃ fd, FunD K "parts_of" "parts_of" (defArgs sPartsOf) (defBody sPartsOf) (defScope sPartsOf) [] [] (He.ga K "parts_of") fd := E.c.def_ 31 (d := dPartsOf) rfl
theorem Tops.f_Below : ∃ fd, FunD K "below" "below" (defArgs sBelow) (defBody sBelow) (defScope sBelow) [] [] (He.ga K "below") fd := E.c.def_ 32 (d := dBelow) rfl
theorem Tops.f_RaisedLength : ∃ fd, FunD K "raised_length" "raised_length" (defArgs sRaisedLength) (defBody sRaisedLength) (defScope sRaisedLength) [] [] (He.ga K "raised_length") fd := E.c.def_ 33 (d := dRaisedLength) rfl
theorem Tops.f_LongestIn : ∃ fd, FunD K "longest_in" "longest_in" (defArgs sLongestIn) (defBody sLongestIn) (defScope sLongestIn) [] [] (He.ga K "longest_in") fd := E.c.def_ 34 (d := dLongestIn) rfl
theorem Tops.f_Longest : ∃ fd, FunD K "longest" "longest" (defArgs sLongest) (defBody sLongest) (defScope sLongest) [] [] (He.ga K "longest") fd := E.c.def_ 35 (d := dLongest) rfl
theorem Tops.f_ChainLength : ∃ fd, FunD K "chain_length" "chain_length" (defArgs sChainLength) (defBody sChainLength) (defScope sChainLength) [] [("even", V.bl true)] (He.ga K "chain_length") fd := E.c.def_ 36 (d := dChainLength) rfl
theorem Tops.f_FewestPriorities : ∃ fd, FunD K "fewest_priorities" "fewest_priorities" (defArgs sFewestPriorities) (defBody sFewestPriorities) (defScope sFewestPriorities) [] [] (He.ga K "fewest_priorities") fd := E.c.def_ 37 (d := dFewestPriorities) rfl
theorem Tops.f_Labelled : ∃ fd, FunD K "labelled" "labelled" (defArgs sLabelled) (defBody sLabelled) (defScope sLabelled) [] [] (He.ga K "labelled") fd := E.c.def_ 38 (d := dLabelled) rfl
theorem Tops.f_Relabel : ∃ fd, FunD K "relabel" "relabel" (defArgs sRelabel) (defBody sRelabel) (defScope sRelabel) [] [] (He.ga K "relabel") fd := E.c.def_ 39 (d := dRelabel) rfl
theorem Tops.f_LawBag : ∃ fd, FunD K "_law_bag" "_law_bag" (defArgs sLawBag) (defBody sLawBag) (defScope sLawBag) [] [] (He.ga K "_law_bag") fd := E.c.def_ 40 (d := dLawBag) rfl
theorem Tops.f_LawPull : ∃ fd, FunD K "_law_pull" "_law_pull" (defArgs sLawPull) (defBody sLawPull) (defScope sLawPull) [] [] (He.ga K "_law_pull") fd := E.c.def_ 41 (d := dLawPull) rfl
theorem Tops.f_LawOf : ∃ fd, FunD K "_law_of" "_law_of" (defArgs sLawOf) (defBody sLawOf) (defScope sLawOf) [] [] (He.ga K "_law_of") fd := E.c.def_ 42 (d := dLawOf) rfl
theorem Tops.f_LawLetters : ∃ fd, FunD K "_law_letters" "_law_letters" (defArgs sLawLetters) (defBody sLawLetters) (defScope sLawLetters) [] [] (He.ga K "_law_letters") fd := E.c.def_ 43 (d := dLawLetters) rfl
theorem Tops.f_LawMade : ∃ fd, FunD K "_law_made" "_law_made" (defArgs sLawMade) (defBody sLawMade) (defScope sLawMade) [] [] (He.ga K "_law_made") fd := E.c.def_ 44 (d := dLawMade) rfl
theorem Tops.f_LawRaw : ∃ fd, FunD K "_law_raw" "_law_raw" (defArgs sLawRaw) (defBody sLawRaw) (defScope sLawRaw) [] [] (He.ga K "_law_raw") fd := E.c.def_ 45 (d := dLawRaw) rfl
theorem Tops.f_LawWord : ∃ fd, FunD K "_law_word" "_law_word" (defArgs sLawWord) (defBody sLawWord) (defScope sLawWord) [] [] (He.ga K "_law_word") fd := E.c.def_ 46 (d := dLawWord) rfl
theorem Tops.f_LawRow : ∃ fd, FunD K "_law_row" "_law_row" (defArgs sLawRow) (defBody sLawRow) (defScope sLawRow) [] [] (He.ga K "_law_row") fd := E.c.def_ 47 (d := dLawRow) rfl
theorem Tops.f_Law : ∃ fd, FunD K "law" "law" (defArgs sLaw) (defBody sLaw) (defScope sLaw) [] [] (He.ga K "law") fd := E.c.def_ 48 (d := dLaw) rfl
end
theorem bt_len : bootBuiltins "len" = some (.builtin "len") := by decide +kernel
theorem bt_all : bootBuiltins "all" = some (.builtin "all") := by decide +kernel
theorem bt_any : bootBuiltins "any" = some (.builtin "any") := by decide +kernel
theorem bt_enumerate : bootBuiltins "enumerate" = some (.type "enumerate") := by decide +kernel
theorem bt_zip : bootBuiltins "zip" = some (.type "zip") := by decide +kernel
theorem bt_sorted : bootBuiltins "sorted" = some (.builtin "sorted") := by decide +kernel
theorem bt_max : bootBuiltins "max" = some (.builtin "max") := by decide +kernel
theorem bt_int : bootBuiltins "int" = some (.type "int") := by decide +kernel
theorem bt_dict : bootBuiltins "dict" = some (.type "dict") := by decide +kernel
theorem bt_tuple : bootBuiltins "tuple" = some (.type "tuple") := by decide +kernel
theorem bt_list : bootBuiltins "list" = some (.type "list") := by decide +kernel
end EL

set_option Elab.async false
set_option linter.all false
set_option maxRecDepth 100000
set_option maxHeartbeats 1000000
/-! depth first search: what the finishing order says. Plain Lean. -/
namespace EL
open PySem
abbrev Tag := Str × Int × Int
abbrev Gph (N : Type) := List (N × List (Tag × N))
section
variable {N : Type} [DecidableEq N]
def adj (g : Gph N) (n : N) : List (Tag × N) := (luk g n).getD []
def Ed (g : Gph N) (u v : N) : Prop := ∃ t, (t, v) ∈ adj g u
abbrev keys (g : Gph N) : List N := g.map (·.1)
structure Wf (g : Gph N) : Prop where
  nd : (keys g).Nodup
  cl : ∀ u v, Ed g u v → v ∈ keys g
/-- reachable -/
inductive Rch (g : Gph N) : N → N → Prop
  | refl (u : N) : Rch g u u
  | step {u v w : N} : Ed g u v → Rch g v w → Rch g u w
theorem Rch.trans {g : Gph N} {u v w : N} (a : Rch g u v) (b : Rch g v w) : Rch g u w := by
  induction a with
  | refl => exact b
  | step e _ ih => exact .step e (ih b)
theorem Rch.one {g : Gph N} {u v : N} (e : Ed g u v) : Rch g u v := .step e (.refl v)
theorem Ed.key {g : Gph N} {u v : N} (e : Ed g u v) : u ∈ keys g := by
  obtain ⟨t, h⟩ := e
  unfold adj at h
  cases q : luk g u with
  | none => rw [q] at h; cases h
  | some a => exact luk_key q
theorem Rch.key {g : Gph N} (W : Wf g) {u v : N} (r : Rch g u v) (h : u ∈ keys g) : v ∈ keys g := by
  induction r with
  | refl => exact h
  | step e _ ih => exact ih (W.cl _ _ e)
/-- the first node outside of a set, on a way that begins within -/
theorem Rch.exit {g : Gph N} {S : N → Prop} (dS : ∀ x, S x ∨ ¬ S x) {u v : N} (r : Rch g u v) (hu : S u) (hv : ¬ S v) : ∃ x y, S x ∧ ¬ S y ∧ Ed g x y ∧ Rch g u x ∧ Rch g y v := by
  induction r with
  | refl => exact absurd hu hv
  | @step u v' w e t ih =>
    rcases dS v' with h | h
    · obtain ⟨x, y, h1, h2, h3, h4, h5⟩ := ih h hv
      exact ⟨x, y, h1, h2, h3, .step e h4, h5⟩
    · exact ⟨u, v', hu, h, e, .refl u, t⟩

/-! the measure -/
def wgt {β : Type} (seen : List N) : List (N × List β) → Nat
  | [] => 0
  | p :: r => (if p.1 ∈ seen then 0 else 2 * p.2.length + 2) + wgt seen r
def ent (g : Gph N) (e : N × Nat) : Nat := if e.2 = 0 then 1 else 2 * ((adj g e.1).length - e.2) + 1
def mu (g : Gph N) (seen : List N) (s : List (N × Nat)) : Nat := wgt seen g + (s.map (ent g)).sum
def cap (g : Gph N) : Nat := wgt [] g + g.length
theorem wgt_le {β : Type} (seen more : List N) : ∀ r : List (N × List β), wgt (seen ++ more) r ≤ wgt seen r
  | [] => Nat.le_refl _
  | p :: r => by
    have ih := wgt_le seen more r
    unfold wgt
    by_cases h : p.1 ∈ seen
    · rw [if_pos h, if_pos (List.mem_append_left _ h)]; omega
    · rw [if_neg h]
      split <;> omega
theorem wgt_new {β : Type} {seen : List N} {n : N} (hn : n ∉ seen) : ∀ {r : List (N × List β)}, (r.map (·.1)).Nodup → n ∈ r.map (·.1) → wgt (seen ++ [n]) r + (2 * ((luk r n).getD []).length + 2) = wgt seen r
  | p :: r, nd, h => by
    obtain ⟨h1, h2⟩ := List.nodup_cons.mp (show (p.1 :: r.map (·.1)).Nodup from nd)
    unfold wgt luk
    by_cases e : p.1 = n
    · rw [if_pos (show p.1 ∈ seen ++ [n] by rw [e]; simp), if_neg (show ¬ p.1 ∈ seen by rw [e]; exact hn), if_pos e]
      have same : ∀ {q : List (N × List β)}, n ∉ q.map (·.1) → wgt (seen ++ [n]) q = wgt seen q := by
        intro q
        induction q with
        | nil => intro _; rfl
        | cons a q ih =>
          intro hq
          have ha : a.1 ≠ n := fun z => hq (by rw [← z]; exact List.mem_cons_self)
          have ih := ih fun z => hq (List.mem_cons_of_mem _ z)
          unfold wgt
          rw [ih]
          by_cases hs : a.1 ∈ seen
          · rw [if_pos hs, if_pos (List.mem_append_left _ hs)]
          · rw [if_neg hs, if_neg (fun z => (List.mem_append.mp z).elim hs fun y => ha (List.mem_singleton.mp y))]
      rw [same (by rw [← e]; exact h1)]
      show 0 + wgt seen r + (2 * p.2.length + 2) = 2 * p.2.length + 2 + wgt seen r
      omega
    · rw [if_neg e]
      have h' : n ∈ r.map (·.1) := (List.mem_cons.mp (show n ∈ p.1 :: r.map (·.1) from h)).resolve_left fun z => e z.symm
      have ih := wgt_new hn h2 h'
      have c : (p.1 ∈ seen ++ [n]) ↔ p.1 ∈ seen := ⟨fun z => (List.mem_append.mp z).elim id fun y => absurd (List.mem_singleton.mp y) e, List.mem_append_left _⟩
      by_cases hs : p.1 ∈ seen
      · rw [if_pos hs, if_pos (c.mpr hs)]; omega
      · rw [if_neg hs, if_neg (fun z => hs (c.mp z))]; omega

def ins (seen : List N) (n : N) : List N := if n ∈ seen then seen else seen ++ [n]
theorem mem_ins {seen : List N} {n x : N} : x ∈ ins seen n ↔ x ∈ seen ∨ x = n := by
  unfold ins
  split
  · rename_i h
    exact ⟨.inl, fun z => z.elim id fun e => e ▸ h⟩
  · rw [List.mem_append, List.mem_singleton]
theorem ins_nodup {seen : List N} {n : N} (h : seen.Nodup) : (ins seen n).Nodup := by
  unfold ins
  split
  · exact h
  · rename_i q
    exact L2.nd_snoc h q
/-- what holds while the search runs; s: the stack, its top first; r: the roots to come -/
structure Dfs (g : Gph N) (seen order : List N) (s : List (N × Nat)) (r : Nat) : Prop where
  key : ∀ e ∈ s, e.1 ∈ keys g ∧ e.2 ≤ (adj g e.1).length ∧ (0 < e.2 → e.1 ∈ seen)
  seenK : ∀ n ∈ seen, n ∈ keys g
  seenN : seen.Nodup
  ordS : ∀ n ∈ order, n ∈ seen
  gray : ∀ n ∈ seen, n ∈ order ∨ ∃ p, 0 < p ∧ (n, p) ∈ s
  clo : ∀ u ∈ order, ∀ v, Ed g u v → v ∈ seen
  tail : ∀ x b, s = x :: b → ∀ e ∈ b, 0 < e.2
  done : ∀ a u p b, s = a ++ (u, p) :: b → 0 < p → ∀ j t v, j < p → (adj g u)[j]? = some (t, v) → v ∈ seen ∨ (v, 0) ∈ a
  path : ∀ a u p b, s = a ++ (u, p) :: b → ∀ e ∈ b, Rch g e.1 u
  fin : ∀ i u, order[i]? = some u → ∀ v, Rch g u v → v ∉ order.take (i + 1) → ∃ w, w ∉ order.take (i + 1) ∧ Rch g u w ∧ Rch g w u ∧ Rch g w v
  size : order.length + mu g seen s + r ≤ cap g
  ordN : order.Nodup
  grayN : ∀ a u p b, s = a ++ (u, p) :: b → 0 < p → u ∉ order ∧ ∀ e ∈ b, e.1 ≠ u
theorem Dfs.start (g : Gph N) : Dfs g [] [] [] g.length where
  key := fun _ h => by cases h
  seenK := fun _ h => by cases h
  seenN := List.nodup_nil
  ordS := fun _ h => by cases h
  gray := fun _ h => by cases h
  clo := fun _ h => by cases h
  tail := fun _ _ h => by cases h
  done := fun a _ _ _ h => by cases a <;> cases h
  path := fun a _ _ _ h => by cases a <;> cases h
  fin := fun i u h => by simp at h
  size := by unfold mu cap; simp
  ordN := List.nodup_nil
  grayN := fun a _ _ _ h => by cases a <;> cases h
variable {g : Gph N} {seen order : List N} {b : List (N × Nat)} {r p : Nat} {n v : N} {t : Tag}
theorem Dfs.root (D : Dfs g seen order [] (r + 1)) (hn : n ∈ keys g) : Dfs g seen order [(n, 0)] r where
  key := fun e h => by
    rw [List.mem_singleton] at h
    subst h
    exact ⟨hn, Nat.zero_le _, fun z => absurd z (Nat.lt_irrefl 0)⟩
  seenK := D.seenK
  seenN := D.seenN
  ordS := D.ordS
  gray := fun x h => (D.gray x h).elim .inl fun ⟨_, _, z⟩ => by cases z
  clo := D.clo
  tail := fun x b h e he => by
    injection h with _ h
    subst h
    cases he
  done := fun a u q b h hq => by
    cases a with
    | nil =>
      injection h with h _
      injection h with _ h
      omega
    | cons x a => injection h with _ h; cases a <;> cases h
  path := fun a u q b h e he => by
    cases a with
    | nil =>
      injection h with _ h
      subst h
      cases he
    | cons x a => injection h with _ h; cases a <;> cases h
  fin := D.fin
  size := by
    have := D.size
    unfold mu at this ⊢
    have e : ([(n, 0)].map (ent g)).sum = 1 := by simp [ent]
    rw [e]
    simp at this
    omega
  ordN := D.ordN
  grayN := fun a u q b h hq => by
    cases a with
    | nil =>
      injection h with h _
      injection h with _ h
      omega
    | cons x a => injection h with _ h; cases a <;> cases h
theorem mu_cons (e : N × Nat) (s : List (N × Nat)) : mu g seen (e :: s) = mu g seen s + ent g e := by
  unfold mu
  rw [List.map_cons, List.sum_cons]
  omega
theorem len_mu : ∀ s : List (N × Nat), s.length ≤ mu g seen s
  | [] => Nat.zero_le _
  | e :: s => by
    rw [mu_cons, List.length_cons]
    have h := len_mu s
    have : 1 ≤ ent g e := by unfold ent; split <;> omega
    omega
theorem Dfs.skip (D : Dfs g seen order ((n, 0) :: b) r) (hn : n ∈ seen) : Dfs g seen order b r ∧ mu g seen b + 1 = mu g seen ((n, 0) :: b) := by
  have e1 : mu g seen ((n, 0) :: b) = mu g seen b + 1 := by rw [mu_cons]; rfl
  refine ⟨⟨fun e h => D.key e (List.mem_cons_of_mem _ h), D.seenK, D.seenN, D.ordS, fun x h => ?_, D.clo, fun x c h e he => ?_, fun a u q c h hq j t v hj hv => ?_, fun a u q c h => ?_, D.fin, ?_, D.ordN, fun a u q c h hq => D.grayN ((n, 0) :: a) u q c (by rw [h]; rfl) hq⟩, e1.symm⟩
  · rcases D.gray x h with z | ⟨p, hp, z⟩
    · exact .inl z
    · rcases List.mem_cons.mp z with z | z
      · injection z with _ z; omega
      · exact .inr ⟨p, hp, z⟩
  · exact D.tail _ _ rfl e (by rw [h]; exact List.mem_cons_of_mem _ he)
  · rcases D.done ((n, 0) :: a) u q c (by rw [h]; rfl) hq j t v hj hv with z | z
    · exact .inl z
    · rcases List.mem_cons.mp z with z | z
      · injection z with z _; subst z; exact .inl hn
      · exact .inr z
  · exact D.path ((n, 0) :: a) u q c (by rw [h]; rfl)
  · have := D.size; omega
theorem mu_ins (Wg : (keys g).Nodup) (hk : n ∈ keys g) (hn : n ∉ seen) (s : List (N × Nat)) : mu g (ins seen n) s + (2 * (adj g n).length + 2) = mu g seen s := by
  have := wgt_new hn Wg hk
  unfold ins mu adj
  rw [if_neg hn]
  omega
theorem ins_old (hn : n ∈ seen) : ins seen n = seen := if_pos hn
/-- a node is left -/
theorem Dfs.leave (W : Wf g) (D : Dfs g seen order ((n, p) :: b) r) (h0 : p = 0 → n ∉ seen) (hp : p = (adj g n).length) : Dfs g (ins seen n) (order ++ [n]) b r ∧ mu g (ins seen n) b < mu g seen ((n, p) :: b) := by
  obtain ⟨hk, hle, hs⟩ := D.key _ List.mem_cons_self
  have hk : n ∈ keys g := hk
  have hle : p ≤ (adj g n).length := hle
  have e1 := mu_cons (g := g) (seen := seen) (n, p) b
  have nord : n ∉ order := fun z => by
    by_cases p0 : p = 0
    · exact h0 p0 (D.ordS n z)
    · exact (D.grayN [] n p b rfl (by omega)).1 z
  have tgt : ∀ v, Ed g n v → v ∈ ins seen n := by
    rintro v ⟨t, ht⟩
    obtain ⟨j, hj⟩ := List.getElem?_of_mem ht
    have hjl : j < p := by rw [hp]; exact (List.getElem?_eq_some_iff.mp hj).1
    rcases D.done [] n p b rfl (by omega) j t v hjl hj with z | z
    · exact mem_ins.mpr (.inl z)
    · cases z
  have mle : mu g (ins seen n) b + 1 ≤ mu g seen ((n, p) :: b) := by
    by_cases z : n ∈ seen
    · rw [ins_old z, e1]
      have : 1 ≤ ent g (n, p) := by unfold ent; split <;> omega
      omega
    · have := mu_ins W.nd hk z b
      omega
  refine ⟨⟨fun e h => ?_, fun x h => ?_, ins_nodup D.seenN, fun x h => ?_, fun x h => ?_, fun u h v e => ?_, fun x c h e he => ?_, fun a u q c h hq j t v hj hv => ?_, fun a u q c h => ?_, fun i u h v hr hv => ?_, ?_, ?_, fun a u q c h hq => ?_⟩, by omega⟩
  · obtain ⟨a1, a2, a3⟩ := D.key e (List.mem_cons_of_mem _ h)
    exact ⟨a1, a2, fun z => mem_ins.mpr (.inl (a3 z))⟩
  · rcases mem_ins.mp h with z | z
    · exact D.seenK x z
    · rw [z]; exact hk
  · rcases List.mem_append.mp h with z | z
    · exact mem_ins.mpr (.inl (D.ordS x z))
    · exact mem_ins.mpr (.inr (List.mem_singleton.mp z))
  · rcases mem_ins.mp h with z | z
    · rcases D.gray x z with y | ⟨q, hq, y⟩
      · exact .inl (List.mem_append_left _ y)
      · rcases List.mem_cons.mp y with y | y
        · injection y with y _; rw [y]; exact .inl (by simp)
        · exact .inr ⟨q, hq, y⟩
    · rw [z]; exact .inl (by simp)
  · rcases List.mem_append.mp h with z | z
    · exact mem_ins.mpr (.inl (D.clo u z v e))
    · rw [List.mem_singleton.mp z] at e; exact tgt v e
  · exact D.tail _ _ rfl e (by rw [h]; exact List.mem_cons_of_mem _ he)
  · rcases D.done ((n, p) :: a) u q c (by rw [h]; rfl) hq j t v hj hv with z | z
    · exact .inl (mem_ins.mpr (.inl z))
    · rcases List.mem_cons.mp z with z | z
      · injection z with z _; exact .inl (mem_ins.mpr (.inr z))
      · exact .inr z
  · exact D.path ((n, p) :: a) u q c (by rw [h]; rfl)
  · by_cases hi : i < order.length
    · have et : (order ++ [n]).take (i + 1) = order.take (i + 1) := List.take_append_of_le_length (by omega)
      rw [List.getElem?_append_left hi] at h
      rw [et] at hv ⊢
      exact D.fin i u h v hr hv
    · have ei : i = order.length := by
        have := (List.getElem?_eq_some_iff.mp h).1
        simp at this; omega
      subst ei
      have eu : u = n := by
        rw [List.getElem?_append_right (Nat.le_refl _)] at h
        simpa using h.symm
      subst eu
      have et : (order ++ [u]).take (order.length + 1) = order ++ [u] := List.take_of_length_le (by simp)
      rw [et] at hv ⊢
      obtain ⟨x, y, hx, hy, e, r1, r2⟩ := hr.exit (S := fun z => z ∈ order ++ [u]) (fun z => Classical.em _) (by simp) hv
      have yS : y ∈ ins seen u := by
        rcases List.mem_append.mp hx with z | z
        · exact mem_ins.mpr (.inl (D.clo x z y e))
        · rw [List.mem_singleton.mp z] at e; exact tgt y e
      have yu : y ≠ u := fun z => hy (by rw [z]; simp)
      have ys : y ∈ seen := (mem_ins.mp yS).resolve_right yu
      rcases D.gray y ys with z | ⟨q, hq, z⟩
      · exact absurd (List.mem_append_left _ z) hy
      · rcases List.mem_cons.mp z with z | z
        · injection z with z _; exact absurd z yu
        · exact ⟨y, hy, r1.trans (.one e), D.path [] u p b rfl _ z, r2⟩
  · have := D.size
    rw [List.length_append, List.length_singleton]
    omega
  · exact L2.nd_snoc D.ordN nord
  · obtain ⟨g1, g2⟩ := D.grayN ((n, p) :: a) u q c (by rw [h]; rfl) hq
    refine ⟨fun z => ?_, g2⟩
    rcases List.mem_append.mp z with z | z
    · exact g1 z
    · rw [List.mem_singleton] at z
      have hin : (u, q) ∈ b := by rw [h]; simp
      by_cases p0 : p = 0
      · have := (D.key _ (List.mem_cons_of_mem _ hin)).2.2 hq
        exact h0 p0 (by rw [← z]; exact this)
      · exact (D.grayN [] n p b rfl (by omega)).2 _ hin z
/-- a node's next edge -/
theorem Dfs.push (W : Wf g) (D : Dfs g seen order ((n, p) :: b) r) (h0 : p = 0 → n ∉ seen) (hv : (adj g n)[p]? = some (t, v)) : Dfs g (ins seen n) order ((v, 0) :: (n, p + 1) :: b) r ∧ mu g (ins seen n) ((v, 0) :: (n, p + 1) :: b) < mu g seen ((n, p) :: b) := by
  obtain ⟨hk, hle, hs⟩ := D.key _ List.mem_cons_self
  have hk : n ∈ keys g := hk
  have hle : p ≤ (adj g n).length := hle
  have e1 := mu_cons (g := g) (seen := seen) (n, p) b
  have hlt : p < (adj g n).length := (List.getElem?_eq_some_iff.mp hv).1
  have ed : Ed g n v := ⟨t, List.mem_of_getElem? hv⟩
  have mle : mu g (ins seen n) ((v, 0) :: (n, p + 1) :: b) + 1 ≤ mu g seen ((n, p) :: b) := by
    rw [mu_cons, mu_cons]
    have a1 : ent g (v, 0) = 1 := rfl
    have a2 : ent g (n, p + 1) = 2 * ((adj g n).length - (p + 1)) + 1 := by unfold ent; rw [if_neg (by simp)]
    by_cases z : n ∈ seen
    · rw [ins_old z, e1, a1, a2]
      have p0 : p ≠ 0 := fun q => h0 q z
      have a3 : ent g (n, p) = 2 * ((adj g n).length - p) + 1 := by unfold ent; rw [if_neg p0]
      omega
    · have := mu_ins W.nd hk z b
      have a4 : 1 ≤ ent g (n, p) := by unfold ent; split <;> omega
      omega
  refine ⟨⟨fun e h => ?_, fun x h => ?_, ins_nodup D.seenN, fun x h => mem_ins.mpr (.inl (D.ordS x h)), fun x h => ?_, fun u h v e => mem_ins.mpr (.inl (D.clo u h v e)), fun x c h e he => ?_, fun a u q c h hq j t' v' hj hv' => ?_, fun a u q c h e he => ?_, D.fin, ?_, D.ordN, fun a u q c h hq => ?_⟩, by omega⟩
  · rcases List.mem_cons.mp h with z | h
    · subst z; exact ⟨W.cl _ _ ed, Nat.zero_le _, fun z => absurd z (Nat.lt_irrefl 0)⟩
    · rcases List.mem_cons.mp h with z | h
      · subst z; exact ⟨hk, hlt, fun _ => mem_ins.mpr (.inr rfl)⟩
      · obtain ⟨a1, a2, a3⟩ := D.key e (List.mem_cons_of_mem _ h)
        exact ⟨a1, a2, fun z => mem_ins.mpr (.inl (a3 z))⟩
  · rcases mem_ins.mp h with z | z
    · exact D.seenK x z
    · rw [z]; exact hk
  · rcases mem_ins.mp h with z | z
    · rcases D.gray x z with y | ⟨q, hq, y⟩
      · exact .inl y
      · rcases List.mem_cons.mp y with y | y
        · injection y with y _; rw [y]; exact .inr ⟨p + 1, by omega, by simp⟩
        · exact .inr ⟨q, hq, by simp [y]⟩
    · rw [z]; exact .inr ⟨p + 1, by omega, by simp⟩
  · injection h with _ h
    subst h
    rcases List.mem_cons.mp he with z | he
    · subst z; exact Nat.succ_pos _
    · exact D.tail _ _ rfl e he
  · cases a with
    | nil =>
      injection h with h _
      injection h with _ h
      omega
    | cons x a =>
      injection h with hx h
      cases a with
      | nil =>
        injection h with h1 h2
        injection h1 with h3 h4
        subst h3
        have h4 : p + 1 = q := h4
        by_cases ej : j = p
        · subst ej
          rw [hv] at hv'
          cases hv'
          exact .inr (by rw [← hx]; simp)
        · rcases D.done [] n p b rfl (by omega) j t' v' (by omega) hv' with z | z
          · exact .inl (mem_ins.mpr (.inl z))
          · cases z
      | cons y a =>
        injection h with hy h
        rcases D.done ((n, p) :: a) u q c (by rw [h]; rfl) hq j t' v' hj hv' with z | z
        · exact .inl (mem_ins.mpr (.inl z))
        · rcases List.mem_cons.mp z with z | z
          · injection z with z _; exact .inl (mem_ins.mpr (.inr z))
          · exact .inr (by simp [z])
  · cases a with
    | nil =>
      injection h with h1 h2
      injection h1 with h3 h4
      subst h2 h3
      rcases List.mem_cons.mp he with z | he
      · subst z; exact .one ed
      · exact (D.path [] n p b rfl e he).trans (.one ed)
    | cons x a =>
      injection h with hx h
      cases a with
      | nil =>
        injection h with h1 h2
        injection h1 with h3 h4
        subst h2 h3
        exact D.path [] n p b rfl e he
      | cons y a =>
        injection h with hy h
        exact D.path ((n, p) :: a) u q c (by rw [h]; rfl) e he
  · have := D.size; omega
  · cases a with
    | nil =>
      injection h with h _
      injection h with _ h
      omega
    | cons x a =>
      injection h with hx h
      cases a with
      | nil =>
        injection h with h1 h2
        injection h1 with h3 h4
        subst h2 h3
        by_cases p0 : p = 0
        · refine ⟨fun z => h0 p0 (D.ordS n z), fun e he z => ?_⟩
          have := (D.key e (List.mem_cons_of_mem _ he)).2.2 (D.tail _ _ rfl e he)
          exact h0 p0 (by rw [← z]; exact this)
        · exact D.grayN [] n p b rfl (by omega)
      | cons y a =>
        injection h with hy h
        exact D.grayN ((n, p) :: a) u q c (by rw [h]; rfl) hq
theorem nd_len {α : Type} [DecidableEq α] : ∀ {l m : List α}, l.Nodup → (∀ x ∈ l, x ∈ m) → l.length ≤ m.length
  | [], _, _, _ => Nat.zero_le _
  | a :: l, m, h, s => by
    obtain ⟨h1, h2⟩ := List.nodup_cons.mp h
    have ha := s a List.mem_cons_self
    have ih := nd_len (m := m.erase a) h2 fun x hx => (List.mem_erase_of_ne (fun e => h1 (by rw [← e]; exact hx))).mpr (s x (List.mem_cons_of_mem _ hx))
    rw [List.length_erase_of_mem ha] at ih
    have : 0 < m.length := List.length_pos_of_mem ha
    rw [List.length_cons]
    omega
theorem Dfs.seenL {s : List (N × Nat)} (D : Dfs g seen order s r) : seen.length ≤ cap g := by
  have h := nd_len D.seenN D.seenK
  rw [List.length_map] at h
  unfold cap
  omega
/-- what the order says in the end -/
structure FinOk (g : Gph N) (order : List N) : Prop where
  all : ∀ n, n ∈ order ↔ n ∈ keys g
  fin : ∀ i u, order[i]? = some u → ∀ v, Rch g u v → v ∉ order.take (i + 1) → ∃ w, w ∉ order.take (i + 1) ∧ Rch g u w ∧ Rch g w u ∧ Rch g w v
  len : order.length ≤ cap g
  nd : order.Nodup
theorem Dfs.end_ (D : Dfs g seen order [] r) (all : ∀ n ∈ keys g, n ∈ seen) : FinOk g order where
  all := fun n => ⟨fun h => D.seenK n (D.ordS n h), fun h => (D.gray n (all n h)).elim id fun ⟨_, _, z⟩ => by cases z⟩
  fin := D.fin
  len := by have := D.size; omega
  nd := D.ordN
end
end EL

set_option Elab.async false
set_option linter.all false
set_option maxRecDepth 100000
set_option maxHeartbeats 1000000
namespace EL
open PySem PySem.Spec PyProof.Rows L2
/-! ### rules that the layer lacks -/
section
variable {X : Cx}
def rNeNil (K : PySem.W.Frag) : R2 := fun x y H Q => ∃ a b xs, x = .ref a ∧ y = .ref b ∧ SqL K H a xs ∧ SqL K H b [] ∧ Q (.bl (!xs.isEmpty)) H
theorem op_neNil (hu : X.A.units < cLine) : OpR X (compareOp .NotEq) (rNeNil X.K) := by
  intro pins s σ H x y v u Q I rx ry h
  obtain ⟨a, b, xs, rfl, rfl, ha, hb, q⟩ := h
  obtain rfl : v = Value.ref a := rx
  obtain rfl : u = Value.ref b := ry
  obtain ⟨its, rv, p1, _⟩ := I.list ha
  obtain ⟨its2, rv2, p2, _⟩ := I.list hb
  cases rv2
  have fin : EP X pins σ Q (.bool (!xs.isEmpty)) s := ⟨.bl _, H, I, rfl, q⟩
  cases rv with
  | nil =>
    have := SeqAt.RcNeAt.lists (A := X.A) (e := fun _ => true) p1.isList p2.isList rfl hu (fun j h1 _ => by simp at h1)
    refine this X.prog X.w X.xe _ ?_
    exact fin
  | cons r rr =>
    have := SeqAt.RcNeAt.lists_lengths (A := X.A) p1.isList p2.isList (by simp) hu
    refine this X.prog X.w X.xe _ ?_
    exact fin
end

/-! ### further statements over worlds -/
section
variable {K : PySem.W.Frag} {F0 H0 F H F1 H1 : Hp} {L : List (Addr × HO)} {k : Lk} {σ : L2.St} {P : Pr} {Ps : List Pr} {te ta tb tl : TE} {D : Ends} {t u : TS} {tA : TA} {g : TG}
/-- x = [e, ..], a list of one's own -/
theorem w_newLs (W : Wr F0 H0 L F H k) {i : Nat} (h : EvA tA σ F H Ps) (hl : Ps.length ≤ 1000)
    (c : ∀ p vs F1 H1 H2, Gr F H F1 H1 → Wr F0 H0 ((p, .lst vs) :: L) F1 H2 k → PrL F1 Ps vs → D.nx (σ.set i (some (.ref p))) H2) : tAsg (tLst tA) (gName i) D σ H :=
  h F H Gr.refl W.sub _ fun vs F1 H1 g1 ps => ⟨by rw [ps.length]; exact Nat.le_trans hl (by decide), fun p hp => c p vs F1 H1 _ g1 ((W.gro g1).new hp rfl) ps⟩
/-- x, y = {}, [] -/
theorem w_parDL {N : Type} [DecidableEq N] [nn : Nd N] (W : Wr F0 H0 L F H k) {i j : Nat} (c : ∀ p q H1, Wr F0 H0 ((q, .lst []) :: (p, Nd.dic ([] : List (N × V))) :: L) F H1 k → D.nx ((σ.set i (some (.ref p))).set j (some (.ref q))) H1) :
    tPar i j (tCons nn.tnew (tCons (tLst tNil) tNil)) D σ H :=
  nn.tnew_eq σ H _ fun p hp => ⟨Nat.zero_le _, fun q hq => ⟨_, _, rfl, c p q _ ((W.new hp (isDct_notTup (Nd.dct _))).new hq rfl)⟩⟩
/-- target = xs.pop() on a list of one's own -/
theorem w_pop (W : Wr F0 H0 L F H k) {i j : Nat} {l : Addr} {xs : List V} {y : V} (hj : L[j]? = some (l, .lst xs)) (hi : σ[i]? = some (some (.ref l))) (hl : xs[xs.length - 1]? = some y)
    (c : Wr F0 H0 (L.set j (l, .lst xs.dropLast)) F (upd H l (.lst xs.dropLast)) k → g y σ (upd H l (.lst xs.dropLast)) D.nx) : tAsg (tBM0 K "list" rPop (tVar i)) g D σ H :=
  ⟨_, hi, Or.inl ⟨rfl, _, SqL.of (W.at hj)⟩, l, xs, y, rfl, rfl, W.at hj, hl, c (W.set hj rfl)⟩
theorem PrL.snoc {F : Hp} {P : Pr} : ∀ {Ps : List Pr} {vs : List V}, PrL F (Ps ++ [P]) vs → ∃ ws v, vs = ws ++ [v] ∧ PrL F Ps ws ∧ P F v
  | [], _, h => by
    cases h with
    | cons a t => cases t; exact ⟨[], _, rfl, .nil, a⟩
  | Q :: Ps, _, h => by
    cases h with
    | cons a t =>
      obtain ⟨ws, v, rfl, h1, h2⟩ := PrL.snoc t
      exact ⟨_ :: ws, v, rfl, .cons a h1, h2⟩
theorem w_popC (W : Wr F0 H0 L F H k) {i j : Nat} {l : Addr} {xs : List V} {y : V} (hj : L[j]? = some (l, .lst (xs ++ [y]))) (hi : σ[i]? = some (some (.ref l)))
    (c : Wr F0 H0 (L.set j (l, .lst xs)) F (upd H l (.lst xs)) k → g y σ (upd H l (.lst xs)) D.nx) : tAsg (tBM0 K "list" rPop (tVar i)) g D σ H :=
  w_pop (y := y) W hj hi (by simp) (by rw [List.dropLast_concat]; exact c)
/-- target = xs.pop(0) -/
theorem w_pop0 (W : Wr F0 H0 L F H k) {i j : Nat} {l : Addr} {xs : List V} {y : V} (hj : L[j]? = some (l, .lst (y :: xs))) (hi : σ[i]? = some (some (.ref l)))
    (c : Wr F0 H0 (L.set j (l, .lst xs)) F (upd H l (.lst xs)) k → g y σ (upd H l (.lst xs)) D.nx) : tAsg (tBM K "list" rPopAt (tVar i) (tCons (tC (.int 0)) tNil)) g D σ H :=
  ⟨_, hi, Or.inl ⟨rfl, _, SqL.of (W.at hj)⟩, l, y :: xs, 0, 0, y, rfl, rfl, W.at hj, by decide, by decide, by simp [seqIndex?], rfl, c (W.set hj rfl)⟩
/-- targets that are tuples -/
theorem tg_tup2 {i j : Nat} {y : V} {P1 P2 : Pr} {Q : L2.St → Hp → Prop} (s : Sub F H) (h : isTup [P1, P2] F y) (c : ∀ v1 v2, P1 F v1 → P2 F v2 → Q ((σ.set i (some v1)).set j (some v2)) H) :
    gTup K 2 (gCons (gName i) (gCons (gName j) gNil)) y σ H Q := by
  obtain ⟨a, vs, rfl, ha, hp⟩ := h
  cases hp with
  | cons p1 hp =>
    cases hp with
    | cons p2 hp =>
      cases hp
      exact ⟨a, _, rfl, SqT.of (s.tup ha), rfl, _, _, rfl, _, _, rfl, rfl, c _ _ p1 p2⟩
theorem tg_tup3 {i j l : Nat} {y : V} {P1 P2 P3 : Pr} {Q : L2.St → Hp → Prop} (s : Sub F H) (h : isTup [P1, P2, P3] F y) (c : ∀ v1 v2 v3, P1 F v1 → P2 F v2 → P3 F v3 → Q (((σ.set i (some v1)).set j (some v2)).set l (some v3)) H) :
    gTup K 3 (gCons (gName i) (gCons (gName j) (gCons (gName l) gNil))) y σ H Q := by
  obtain ⟨a, vs, rfl, ha, hp⟩ := h
  cases hp with
  | cons p1 hp =>
    cases hp with
    | cons p2 hp =>
      cases hp with
      | cons p3 hp =>
        cases hp
        exact ⟨a, _, rfl, SqT.of (s.tup ha), rfl, _, _, rfl, _, _, rfl, _, _, rfl, rfl, c _ _ _ p1 p2 p3⟩
/-- xs != [] on a list that stands in H -/
theorem et_neNil {i : Nat} {l : Addr} {xs : List V} (hi : σ[i]? = some (some (.ref l))) (hH : H l = some (.lst xs)) : EvT (tTest (tOp (rNeNil K) (tVar i) (tLst tNil))) σ F H (!xs.isEmpty) := fun F1 H1 g s Q q =>
  ⟨_, hi, Nat.zero_le _, fun p hp => ⟨l, p, xs, rfl, rfl, SqL.of (by rw [upd_ne (ne_of_none (g.ex _ _ hH) hp)]; exact g.ex _ _ hH), SqL.of upd_same, _, rfl, q _ _ (Gr.new hp)⟩⟩
/-- len of a frozen list -/
theorem ca_lenL : CaP (fun xs H Q => ∃ p ys, xs = [.ref p] ∧ (SqL K H p ys ∨ SqT K H p ys) ∧ Q (.int ys.length) H) [isLst Ps] (isV (.int Ps.length)) F H := ca_val fun F1 H1 vs g s hp Q q => by
  cases hp with
  | cons h hp =>
    cases hp
    obtain ⟨a, ws, rfl, ha, hw⟩ := h
    exact ⟨a, ws, rfl, .inl (SqL.of (s.lst ha)), by rw [hw.length]; exact q⟩
theorem ca_lenT : CaP (fun xs H Q => ∃ p ys, xs = [.ref p] ∧ (SqL K H p ys ∨ SqT K H p ys) ∧ Q (.int ys.length) H) [isTup Ps] (isV (.int Ps.length)) F H := ca_val fun F1 H1 vs g s hp Q q => by
  cases hp with
  | cons h hp =>
    cases hp
    obtain ⟨a, ws, rfl, ha, hw⟩ := h
    exact ⟨a, ws, rfl, .inr (SqT.of (s.tup ha)), by rw [hw.length]; exact q⟩
end

/-! ### graphs as values -/
def pTag (t : Tag) : Pr := isTup [isV (.str t.1), isV (.int t.2.1), isV (.int t.2.2)]
instance {t : Tag} : Mn (pTag t) := by unfold pTag; infer_instance
section
variable {N : Type} [DecidableEq N] [Nd N]
def pE (e : Tag × N) : Pr := isTup [pTag e.1, Nd.nd e.2]
instance {e : Tag × N} : Mn (pE e) := by unfold pE; infer_instance
def pEs (es : List (Tag × N)) : Pr := isLst (es.map pE)
instance {es : List (Tag × N)} : Mn (pEs es) := by unfold pEs; infer_instance
def pG (g : Gph N) : Pr := isD (g.map fun p => (p.1, pEs p.2))
theorem map_snd_pG (g : Gph N) : (g.map fun p => (p.1, pEs p.2)).map (·.2) = g.map fun p => pEs p.2 := by rw [List.map_map]; rfl
theorem map_fst_pG (g : Gph N) : (g.map fun p => (p.1, pEs p.2)).map (·.1) = keys g := by rw [List.map_map]; rfl
instance {g : Gph N} : Mn (pG g) := by
  unfold pG
  have : MnL ((g.map fun p => (p.1, pEs p.2)).map (·.2)) := by rw [map_snd_pG]; infer_instance
  infer_instance
theorem luk_pG {g : Gph N} {n : N} (h : n ∈ keys g) : luk (g.map fun p => (p.1, pEs p.2)) n = some (pEs (adj g n)) := by
  obtain ⟨es, e⟩ := luk_some h
  rw [luk_map, e]
  unfold adj
  rw [e]
  rfl
theorem ev_adj {σ : L2.St} {F H : Hp} {ta ty : TE} {g : Gph N} {n : N} (hd : EvP ta σ F H (pG g)) (hy : EvP ty σ F H (Nd.nd n)) (h : n ∈ keys g) : EvP (tDGet ta ty) σ F H (pEs (adj g n)) :=
  ev_dget hd (inferInstance : Mn (pG g)) hy (luk_pG h)
end
theorem put_ins {N α : Type} [DecidableEq N] {l : List (N × α)} {n : N} {a : α} : (putA l n a).map (·.1) = ins (l.map (·.1)) n := by
  unfold ins
  split
  · rename_i h; exact put_keys_old a h
  · rename_i h; exact put_keys_new a h
/-- a def of the top keeps its promise: the body by its derivation and reading -/
theorem Cal.of {P : Program} {w : World} {K : PySem.W.Frag} {mg : Str → Option Value} {base : Heap} {x qual : Str} {st : Stmt} {N ps : List Str} {k : Nat} {sp : Sp} (F : ∃ fd, FunD K x qual (defArgs st) (defBody st) (defScope st) [] [] (He.ga K x) fd) (gm : mg x = some (.ref (He.ga K x))) (S : FnScope N ps (defScope st))
    (hb : ∀ (kV doc pm : Value) (an : Option Addr) (cdv ct : Value) (us : List Value), us.length = ps.length → bindArgs (PySem.W.fnOf x qual (defArgs st) (defBody st) (defScope st) .none kV doc pm an cdv ct) ⟨us, []⟩ = pure (ps.zip us))
    (len : ∀ vs H Q E, sp vs H Q E → vs.length = ps.length)
    (hbody : ∀ (cdv : Value) (A : Around) (outer : List Env) (s : Shared) (H : Hp) (vs : List V) (Q : VK) (E : XK), Room k (A.deeper (envOfC qual (defScope st) s.heap.objs.size (He.ga K x) cdv)) → sp vs H Q E →
      ∃ t, PSs (cxOf CX0 P w K mg base N qual (defScope st) (He.ga K x) cdv A outer s H E).nox (defBody st) t ∧ t { nx := fun _ H' => Q .non H', rt := Q } (start N vs) H) : Cal P w K mg base (k + 1) x ps sp := by
  obtain ⟨fd, F⟩ := F
  refine ⟨⟨fd, F.ok S len fun cdv A outer s H vs Q E hr h => ?_, F.bindsN hb⟩, gm, F.kp⟩
  obtain ⟨t, h1, h2⟩ := hbody cdv A outer s H vs Q E hr h
  exact ⟨t, h1.nox, h2⟩
end EL

set_option Elab.async false
set_option linter.all false
set_option maxRecDepth 100000
set_option maxHeartbeats 2000000
namespace EL
open PySem PySem.Spec PyProof.Rows L2
/-- finish_order -/
def spFO (N : Type) [DecidableEq N] [Nd N] : Sp := fun vs H Q _ => ∃ (F : Hp) (g : Gph N) (v : V), vs = [v] ∧ Same F H ∧ pG g F v ∧ Wf g ∧ cap g ≤ 10000 ∧ Ret F H (isEx (fun o : List N => isLst (o.map Nd.nd)) (FinOk g)) Q
theorem sc_finish_order : FnScope ["edges", "seen", "order", "root", "stack", "node", "place"] ["edges"] (defScope sFinishOrder) := ⟨rfl, rfl, rfl, by decide +kernel, rfl, by decide +kernel, by decide +kernel⟩
section
variable {P : Program} {w : World} {K : PySem.W.Frag} {mg : Str → Option Value} {base : Heap}
theorem ok_finish_order (N : Type) [DecidableEq N] [nn : Nd N] (E : Tops K mg) : Cal P w K mg base 1 "finish_order" ["edges"] (spFO N) := by
  refine Cal.of E.f_FinishOrder E.g_finish_order sc_finish_order (fun _ _ _ _ _ _ us hl => match us, hl with | [_], _ => rfl) (fun vs H Q Ex h => ?_) (fun cdv A outer s H vs Q Ex hr h => ?_)
  · obtain ⟨F, g, v, rfl, _⟩ := h
    rfl
  · obtain ⟨F, g, v, rfl, s0, hg, Wg, sm, k⟩ := h
    refine ⟨_, (pss_cons (ps_par (i := 1) (j := 2) (by rfl) sc_finish_order.nd rfl rfl (by decide) rfl rfl (pa_cons nn.pnew (pa_cons (pe_lst pa_nil) pa_nil)) (by rfl))
      (pss_cons (ps_lock (ps_for PassesOwn.never rfl (pi_keys (pv 0)) (pg_name (i := 3) sc_finish_order.nd rfl (.inl rfl))
        (pss_cons (ps_set (i := 4) sc_finish_order.nd rfl (.inl rfl) (pe_lst (pa_cons (pe_tup (pa_cons (pv 3) (pa_cons pe_int pa_nil))) pa_nil)))
        (pss_one (ps_while PassesOwn.never (pt_cmpR (op_neNil hr.units0) (pv 4) (pe_lst pa_nil) (nomark _))
          (pss_cons (ps_asg (pe_bm0 PySem.F.plainAttrs_list PySem.F.slot_list_pop PySem.F.type_list_pop mt_pop (pv 4)) (pg_tup rfl (pgs_cons (pg_name (i := 5) sc_finish_order.nd rfl (.inl rfl)) (pgs_cons (pg_name (i := 6) sc_finish_order.nd rfl (.inl rfl)) pgs_nil))))
          (pss_cons (ps_if (PW.pt (pw_and (pt_cmpR op_eq (pv 6) pe_int (nomark _)) (pw_and1 (pt_cmp (pc_din (hu_of hr) (pv 5) (pv 1))))))
            (pss_one ps_continue)
            pss_nil)
          (pss_cons (ps_dput (hu_of hr) (pv 1) (pv 5) pe_bl rfl)
          (pss_one (ps_if (pt_cmpR op_eq (pv 6) (pe_callB call_len_seq (by rfl) E.n_len bt_len (pa_cons (pe_dget (hu_of hr) (pv 0) (pv 5) (fun _ _ => rfl)) pa_nil)) (nomark _))
            (pss_one (ps_expr (pe_bm PySem.F.plainAttrs_list PySem.F.slot_list_append PySem.F.type_list_append mt_append (pv 2) (pa_cons (pv 5) pa_nil))))
            (pss_cons (ps_expr (pe_bm PySem.F.plainAttrs_list PySem.F.slot_list_append PySem.F.type_list_append mt_append (pv 4) (pa_cons (pe_tup (pa_cons (pv 5) (pa_cons (pe_op op_add (pv 6) pe_int) pa_nil))) pa_nil)))
            (pss_one (ps_expr (pe_bm PySem.F.plainAttrs_list PySem.F.slot_list_append PySem.F.type_list_append mt_append (pv 4) (pa_cons (pe_tup (pa_cons (pe_ix ix_tup (pe_ix ix_list (pe_dget (hu_of hr) (pv 0) (pv 5) (fun _ _ => rfl)) (pv 6) (fun _ _ => rfl)) pe_int (fun _ _ => rfl)) (pa_cons pe_int pa_nil))) pa_nil)))))))))))))))
      (pss_one (ps_ret (pv 2))))), ?_⟩
    obtain ⟨a, l, rfl, hF, hk, hn, hp⟩ := id hg
    have W0 := Wr.start s0
    refine w_seq (w_parDL W0 fun p q H1 W1 => ?_)
    refine w_seq (w_forK (l := l) W1 rfl hF fun od W2 => ?_)
    refine ⟨fun i σ' F' H' => ∃ (kvs : List (N × V)) (order : List N) (vo : List V) (x3 x4 x5 x6 : Option V), σ' = [some (.ref a), some (.ref p), some (.ref q), x3, x4, x5, x6] ∧
      Wr F H [(q, .lst vo), (p, Nd.dic kvs)] F' H' (some (a, od, Nd.dic l)) ∧ PrL F' (order.map Nd.nd) vo ∧ Dfs g (kvs.map (·.1)) order [] (g.length - i) ∧ ∀ j n, j < i → (keys g)[j]? = some n → n ∈ kvs.map (·.1),
      ⟨[], [], [], none, none, none, none, rfl, W2, .nil, Dfs.start g, fun j n h => absurd h (Nat.not_lt_zero j)⟩, ?_, ?_, ?_⟩
    · rintro i σ' F' H' ⟨kvs, order, vo, x3, x4, x5, x6, rfl, W3, _⟩
      exact (W3.lk _ _ _ rfl).1
    · rintro i n w v σ' F' F2 H' hi sF ⟨kvs, order, vo, x3, x4, x5, x6, rfl, W3, ho, hD, hseen⟩ g2 hnd
      have hkey : (keys g)[i]? = some n := by
        have : (l.map (·.1))[i]? = some n := by rw [List.getElem?_map, hi]; rfl
        rw [hk, map_fst_pG] at this
        exact this
      have hlt : i < g.length := by
        have := (List.getElem?_eq_some_iff.mp hkey).1
        simpa using this
      have hmem : n ∈ keys g := List.mem_of_getElem? hkey
      have W4 := W3.gro g2
      have sF2 : Same F F2 := sF.trans g2.fx
      -- stack = [(root, 0)]
      refine w_seq (w_newLs W4 (Ps := [isTup [Nd.nd n, isV (.int 0)]]) (ea_cons (ev_tup (ea_cons (ev_var rfl inferInstance hnd) inferInstance (ea_cons ev_c inferInstance ea_nil)) inferInstance) inferInstance ea_nil) (by simp) fun st vst F5 H5 H6 g5 W5 hst => ?_)
      have D5 : Dfs g (kvs.map (·.1)) order [(n, 0)] (g.length - (i + 1)) := Dfs.root (by rw [show g.length - (i + 1) + 1 = g.length - i by omega]; exact hD) hmem
      refine w_while (fun m σ'' F'' H'' => ∃ (kvs2 : List (N × V)) (order2 : List N) (vo2 vst2 : List V) (s2 : List (N × Nat)) (y5 y6 : Option V), σ'' = [some (.ref a), some (.ref p), some (.ref q), some v, some (.ref st), y5, y6] ∧
        m = mu g (kvs2.map (·.1)) s2 ∧ Same F F'' ∧ Wr F H [(st, .lst vst2), (q, .lst vo2), (p, Nd.dic kvs2)] F'' H'' (some (a, od, Nd.dic l)) ∧ PrL F'' (order2.map Nd.nd) vo2 ∧
        PrL F'' (s2.reverse.map fun e => isTup [Nd.nd e.1, isV (.int (e.2 : Int))]) vst2 ∧ Dfs g (kvs2.map (·.1)) order2 s2 (g.length - (i + 1)) ∧ (n ∈ kvs2.map (·.1) ∨ (n, 0) ∈ s2) ∧ (∀ x ∈ kvs.map (·.1), x ∈ kvs2.map (·.1)))
        W5.sub _ ⟨kvs, order, vo, vst, [(n, 0)], x5, x6, rfl, rfl, sF2.trans g5.fx, W5, (mnl_map (fun _ => inferInstance) _).mn (g2.trans g5).fx ho, hst, D5, .inr (by simp), fun x hx => hx⟩ ?_
      rintro m σ'' F' H' sb ⟨kvs2, order2, vo2, vst2, s2, y5, y6, rfl, rfl, sFF, W6, ho2, hst2, D6, hroot, hmono⟩
      refine ⟨_, et_neNil rfl (W6.at (j := 0) rfl), fun hb F7 H7 g7 => ?_, fun hb F7 H7 g7 => ?_⟩
      · -- a turn
        have W7 := W6.gro g7
        cases s2 with
        | nil => cases hst2; cases hb
        | cons e s3 =>
          obtain ⟨u, pl⟩ := e
          rw [List.reverse_cons, List.map_append] at hst2
          obtain ⟨ws, y, rfl, hws, hy⟩ := PrL.snoc hst2
          have D6 : Dfs g (kvs2.map (·.1)) order2 ((u, pl) :: s3) (g.length - (i + 1)) := D6
          have hu : u ∈ keys g := (D6.key _ List.mem_cons_self).1
          have hpl : pl ≤ (adj g u).length := (D6.key _ List.mem_cons_self).2.1
          have bound : order2.length + (s3.length + 1) ≤ 10000 := by
            have h1 := D6.size
            have h2 := len_mu (g := g) (seen := kvs2.map (·.1)) ((u, pl) :: s3)
            rw [List.length_cons] at h2
            omega
          -- node, place = stack.pop()
          refine w_seq (w_popC W7 (j := 0) rfl rfl fun W8 => tg_tup2 W8.sub ((inferInstance : Mn (isTup [Nd.nd u, isV (.int (pl : Int))])).gr g7 hy) fun vn vp hvn hvp => ?_)
          obtain rfl : vp = .int (pl : Int) := hvp
          have sF8 : Same F F7 := sFF.trans g7.fx
          have hgF : pG g F7 (.ref a) := (inferInstance : Mn (pG g)).mn sF8 hg
          have ho7 := (mnl_map (fun _ => inferInstance) _ : MnL (order2.map Nd.nd)).mn g7.fx ho2
          have hws7 := (mnl_map (fun _ => inferInstance) _ : MnL (s3.reverse.map fun e => isTup [Nd.nd e.1, isV (.int (e.2 : Int))])).mn g7.fx hws
          -- if place == 0 and node in seen: continue
          refine w_seq (w_if W8 (et_and (et_test (ev_op (ev_varV rfl) ev_c inferInstance (op_Eq rfl))) fun _ => et_B (ev_dinO (W8.at (j := 2) rfl) (ev_var rfl inferInstance hvn) (ev_varV rfl))) (fun hb F9 H9 g9 W9 => ?_) (fun hb F9 H9 g9 W9 => ?_))
          · obtain ⟨hb1, hb2⟩ := Bool.and_eq_true_iff.mp hb
            have e0 : pl = 0 := by
              have := of_decide_eq_true hb1
              injection this with this
              omega
            subst e0
            have hin : u ∈ kvs2.map (·.1) := by
              obtain ⟨x, hx⟩ := Option.isSome_iff_exists.mp hb2
              exact luk_key hx
            obtain ⟨D9, mlt⟩ := D6.skip hin
            refine ⟨_, F9, ?_, W9.sub, kvs2, order2, vo2, ws, s3, _, _, rfl, rfl, sF8.trans g9.fx, W9, (mnl_map (fun _ => inferInstance) _).mn g9.fx ho7, (mnl_map (fun _ => inferInstance) _).mn g9.fx hws7, D9, ?_, hmono⟩
            · show mu g (kvs2.map (·.1)) s3 < mu g (kvs2.map (·.1)) ((u, 0) :: s3)
              omega
            · rcases hroot with z | z
              · exact .inl z
              · rcases List.mem_cons.mp z with z | z
                · injection z with z _; subst z; exact .inl hin
                · exact .inr z
          · have h0 : pl = 0 → u ∉ kvs2.map (·.1) := by
              rintro rfl hm
              obtain ⟨x, hx⟩ := luk_some hm
              rw [hx] at hb
              cases hb
            have hlen : kvs2.length ≤ 10000 := by
              have := D6.seenL
              rw [List.length_map] at this
              omega
            -- seen[node] = True
            refine w_seq (w_dput W9 (j := 2) rfl D6.seenN (by omega) (ev_varV rfl) (ev_var rfl inferInstance ((inferInstance : Mn (Nd.nd u)).gr g9 hvn)) ev_c inferInstance fun vt F10 H10 g10 W10 _ => ?_)
            have hgF10 : pG g F10 (.ref a) := (inferInstance : Mn (pG g)).mn (g9.trans g10).fx hgF
            have hvn10 := (inferInstance : Mn (Nd.nd u)).gr (g9.trans g10) hvn
            have ho10 := (mnl_map (fun _ => inferInstance) _ : MnL (order2.map Nd.nd)).mn (g9.trans g10).fx ho7
            have hws10 := (mnl_map (fun _ => inferInstance) _ : MnL (s3.reverse.map fun e => isTup [Nd.nd e.1, isV (.int (e.2 : Int))])).mn (g9.trans g10).fx hws7
            have sF10 := sF8.trans (g9.trans g10).fx
            have eins : (putA kvs2 u vt).map (·.1) = ins (kvs2.map (·.1)) u := put_ins
            -- if place == len(edges[node])
            refine w_if W10 (et_test (ev_op (ev_varV rfl) (ev_cb (ea_cons (ev_adj (ev_var rfl inferInstance hgF10) (ev_var rfl inferInstance hvn10) hu) inferInstance ea_nil) ca_lenL) inferInstance (op_Eq rfl))) (fun hb F11 H11 g11 W11 => ?_) (fun hb F11 H11 g11 W11 => ?_)
            · have ep : pl = (adj g u).length := by
                have := of_decide_eq_true hb
                injection this with this
                rw [List.length_map] at this
                omega
              obtain ⟨D11, mlt⟩ := D6.leave Wg h0 ep
              refine w_app W11 (j := 1) rfl (ev_varV rfl) (ev_var rfl inferInstance ((inferInstance : Mn (Nd.nd u)).gr g11 hvn10)) (by have := ho10.length; simp at this; omega) fun v12 F12 H12 g12 W12 hv12 => ?_
              refine ⟨_, F12, mlt, W12.sub, putA kvs2 u vt, order2 ++ [u], vo2 ++ [v12], ws, s3, _, _, rfl, by rw [eins], sF10.trans (g11.trans g12).fx, W12, ?_, (mnl_map (fun _ => inferInstance) _).mn (g11.trans g12).fx hws10, by rw [eins]; exact D11, ?_, fun x hx => by rw [eins]; exact mem_ins.mpr (.inl (hmono x hx))⟩
              · rw [List.map_append]
                exact ((mnl_map (fun _ => inferInstance) _).mn (g11.trans g12).fx ho10).append (.one hv12)
              · rw [eins]
                rcases hroot with z | z
                · exact .inl (mem_ins.mpr (.inl z))
                · rcases List.mem_cons.mp z with z | z
                  · injection z with z _; exact .inl (mem_ins.mpr (.inr z))
                  · exact .inr z
            · have hplt : pl < (adj g u).length := by
                rcases Nat.lt_or_ge pl (adj g u).length with z | z
                · exact z
                · exfalso
                  have e : pl = ((adj g u).map pE).length := by rw [List.length_map]; omega
                  rw [e] at hb
                  simp at hb
              obtain ⟨⟨tg, tn⟩, het⟩ : ∃ e, (adj g u)[pl]? = some e := ⟨_, List.getElem?_eq_getElem hplt⟩
              obtain ⟨D11, mlt⟩ := D6.push Wg h0 het
              have hvn11 := (inferInstance : Mn (Nd.nd u)).gr g11 hvn10
              -- stack.append((node, place + 1))
              refine w_seq (w_app W11 (j := 0) rfl (ev_varV rfl) (ev_tup (ea_cons (ev_var rfl inferInstance hvn11) inferInstance (ea_cons (ev_op (ev_varV rfl) ev_c inferInstance op_I0) inferInstance ea_nil)) inferInstance) (by have := hws10.length; simp at this; omega) fun v12 F12 H12 g12 W12 hv12 => ?_)
              have hvn12 := (inferInstance : Mn (Nd.nd u)).gr g12 hvn11
              have hgF12 : pG g F12 (.ref a) := (inferInstance : Mn (pG g)).mn (g11.trans g12).fx hgF10
              -- stack.append((edges[node][place][1], 0))
              refine w_app W12 (j := 0) rfl (ev_varV rfl) (ev_tup (ea_cons (ev_op (ev_op (ev_adj (ev_var rfl inferInstance hgF12) (ev_var rfl inferInstance hvn12) hu) (ev_varV rfl) inferInstance (op_ixL (P := pE (tg, tn)) (atI_nat (by rw [List.getElem?_map, het]; rfl)))) ev_c inferInstance (op_ixT (P := Nd.nd tn) rfl)) inferInstance (ea_cons ev_c inferInstance ea_nil)) inferInstance) (by have := hws10.length; simp at this ⊢; omega) fun v13 F13 H13 g13 W13 hv13 => ?_
              refine ⟨_, F13, mlt, W13.sub, putA kvs2 u vt, order2, vo2, ws ++ [v12] ++ [v13], (tn, 0) :: (u, pl + 1) :: s3, _, _, rfl, by rw [eins], sF10.trans ((g11.trans g12).fx.trans g13.fx), W13, (mnl_map (fun _ => inferInstance) _).mn ((g11.trans g12).fx.trans g13.fx) ho10, ?_, by rw [eins]; exact D11, ?_, fun x hx => by rw [eins]; exact mem_ins.mpr (.inl (hmono x hx))⟩
              · rw [List.reverse_cons, List.reverse_cons, List.map_append, List.map_append]
                refine (((mnl_map (fun _ => inferInstance) _).mn ((g11.trans g12).fx.trans g13.fx) hws10).append (.one ?_)).append (.one hv13)
                exact (inferInstance : Mn (isTup [Nd.nd u, isV (.int ((pl : Int) + 1))])).mn g13.fx hv12
              · rw [eins]
                rcases hroot with z | z
                · exact .inl (mem_ins.mpr (.inl z))
                · rcases List.mem_cons.mp z with z | z
                  · injection z with z _; exact .inl (mem_ins.mpr (.inr z))
                  · exact .inr (List.mem_cons_of_mem _ (List.mem_cons_of_mem _ z))
      · -- the end
        cases s2 with
        | cons e s3 =>
          have := hst2.length
          cases vst2 with
          | nil => simp at this
          | cons y ys => cases hb
        | nil =>
          have hin : n ∈ kvs2.map (·.1) := hroot.resolve_right fun z => by cases z
          refine ⟨F7, sFF.trans g7.fx, (W6.gro g7).sub, kvs2, order2, vo2, _, _, _, _, rfl, (W6.gro g7).drop 0, (mnl_map (fun _ => inferInstance) _).mn g7.fx ho2, D6, fun j n' hj hn' => ?_⟩
          by_cases ej : j = i
          · subst ej
            rw [hkey] at hn'
            cases hn'
            exact hin
          · exact hmono _ (hseen j n' (by omega) hn')
    · rintro σ' F' H' sF ⟨kvs, order, vo, x3, x4, x5, x6, rfl, W3, ho, hD, hseen⟩
      have W4 := W3.unlockF
      have fin : FinOk g order := hD.end_ fun n hn => by
        obtain ⟨j, hj⟩ := List.getElem?_of_mem hn
        refine hseen j n ?_ hj
        have := (List.getElem?_eq_some_iff.mp hj).1
        have e : l.length = g.length := by
          have := congrArg List.length hk
          simpa using this
        rw [e]
        simpa using this
      obtain ⟨W5, s5⟩ := W4.frz (j := 0) rfl (fun _ _ z => by cases z)
      refine w_ret W5 (ev_varV rfl) fun v F6 H6 g6 W6 e => ?_
      obtain rfl : v = _ := e
      refine k _ F6 H6 W6.gr ⟨order, fin, q, vo, rfl, g6.fx _ _ upd_same, (mnl_map (fun _ => inferInstance) _).mn (s5.trans g6.fx) ho⟩
end
end EL

set_option Elab.async false
set_option linter.all false
set_option maxRecDepth 100000
set_option maxHeartbeats 1000000
/-! strongly connected parts: the second phase. Plain Lean. -/
namespace EL
open PySem
section
variable {N : Type} [DecidableEq N] {g : Gph N}
def Co (g : Gph N) (u v : N) : Prop := Rch g u v ∧ Rch g v u
theorem Co.refl (u : N) : Co g u u := ⟨.refl u, .refl u⟩
theorem Co.symm {u v : N} (h : Co g u v) : Co g v u := ⟨h.2, h.1⟩
theorem Co.trans {u v w : N} (h : Co g u v) (k : Co g v w) : Co g u w := ⟨h.1.trans k.1, k.2.trans h.2⟩
/-- parts, numbered below count -/
structure Ptn (g : Gph N) (part : List (N × Int)) (count : Nat) : Prop where
  nd : (part.map (·.1)).Nodup
  sub : ∀ n ∈ part.map (·.1), n ∈ keys g
  rng : ∀ n c, luk part n = some c → 0 ≤ c ∧ c < count
  co : ∀ u v a b, luk part u = some a → luk part v = some b → (a = b ↔ Co g u v)
  full : ∀ u v, u ∈ part.map (·.1) → Co g u v → v ∈ part.map (·.1)
  cnt : count ≤ part.length
theorem Ptn.start (g : Gph N) : Ptn g [] 0 where
  nd := List.nodup_nil
  sub := fun _ h => by cases h
  rng := fun _ _ h => by cases h
  co := fun _ _ _ _ h => by cases h
  full := fun _ _ h => by cases h
  cnt := Nat.le_refl _
/-- while a part is flooded from r -/
structure Fld (g : Gph N) (part0 : List (N × Int)) (c : Nat) (r : N) (part : List (N × Int)) (line : List N) : Prop where
  nd : (part.map (·.1)).Nodup
  sub : ∀ n ∈ part.map (·.1), n ∈ keys g
  old : ∀ n a, luk part0 n = some a → luk part n = some a
  new : ∀ n, n ∈ part.map (·.1) → n ∉ part0.map (·.1) → luk part n = some (c : Int) ∧ Rch g n r
  lin : ∀ y ∈ line, y ∈ keys g ∧ Rch g y r
  clo : ∀ x, x ∈ part.map (·.1) → x ∉ part0.map (·.1) → ∀ u, Ed g u x → u ∈ part.map (·.1) ∨ u ∈ line
  root : r ∈ part.map (·.1) ∨ r ∈ line
  len : part0.length ≤ part.length
variable {part0 part : List (N × Int)} {c : Nat} {r n : N} {line us : List N}
theorem Fld.start (P : Ptn g part0 c) (hr : r ∈ keys g) : Fld g part0 c r part0 [r] where
  nd := P.nd
  sub := P.sub
  old := fun _ _ h => h
  new := fun n h k => absurd h k
  lin := fun y h => by rw [List.mem_singleton] at h; subst h; exact ⟨hr, .refl _⟩
  clo := fun x h k => absurd h k
  root := .inr (by simp)
  len := Nat.le_refl _
theorem Fld.skip (D : Fld g part0 c r part (line ++ [n])) (hn : n ∈ part.map (·.1)) : Fld g part0 c r part line where
  nd := D.nd
  sub := D.sub
  old := D.old
  new := D.new
  lin := fun y h => D.lin y (List.mem_append_left _ h)
  clo := fun x h k u e => (D.clo x h k u e).elim .inl fun z => (List.mem_append.mp z).elim .inr fun z => .inl (by rw [List.mem_singleton.mp z]; exact hn)
  root := D.root.elim .inl fun z => (List.mem_append.mp z).elim .inr fun z => .inl (by rw [List.mem_singleton.mp z]; exact hn)
  len := D.len
theorem luk_snoc {α : Type} {l : List (N × α)} {n m : N} {a : α} (h : n ∉ l.map (·.1)) : luk (l ++ [(n, a)]) m = if n = m then some a else luk l m := by
  rw [← put_new a (luk_none.mpr h), luk_put]
theorem Fld.take (D : Fld g part0 c r part (line ++ [n])) (hn : n ∉ part.map (·.1)) (hu : ∀ u, u ∈ us ↔ Ed g u n) : Fld g part0 c r (part ++ [(n, (c : Int))]) (line ++ us) := by
  obtain ⟨nk, nr⟩ := D.lin n (by simp)
  have mem : ∀ x, x ∈ (part ++ [(n, (c : Int))]).map (·.1) ↔ x ∈ part.map (·.1) ∨ x = n := fun x => by simp
  have keyU : ∀ u, Ed g u n → u ∈ keys g := fun u e => e.key
  refine ⟨?_, fun x h => ?_, fun m a h => ?_, fun x h k => ?_, fun y h => ?_, fun x h k u e => ?_, ?_, by rw [List.length_append]; have := D.len; omega⟩
  · rw [List.map_append]; exact L2.nd_snoc D.nd hn
  · rcases (mem x).mp h with z | z
    · exact D.sub x z
    · rw [z]; exact nk
  · rw [luk_snoc hn, if_neg (fun z => hn (by rw [z]; exact luk_key (D.old m a h)))]
    exact D.old m a h
  · rw [luk_snoc hn]
    by_cases z : n = x
    · rw [if_pos z, ← z]; exact ⟨rfl, nr⟩
    · rw [if_neg z]
      exact D.new x (((mem x).mp h).resolve_right fun y => z y.symm) k
  · rcases List.mem_append.mp h with z | z
    · exact D.lin y (List.mem_append_left _ z)
    · have e := (hu y).mp z
      exact ⟨e.key, .step e nr⟩
  · rcases (mem x).mp h with z | z
    · rcases D.clo x z k u e with y | y
      · exact .inl ((mem u).mpr (.inl y))
      · rcases List.mem_append.mp y with y | y
        · exact .inr (List.mem_append_left _ y)
        · exact .inl ((mem u).mpr (.inr (List.mem_singleton.mp y)))
    · rw [z] at e
      exact .inr (List.mem_append_right _ ((hu u).mpr e))
  · rcases D.root with z | z
    · exact .inl ((mem r).mpr (.inl z))
    · rcases List.mem_append.mp z with z | z
      · exact .inr (List.mem_append_left _ z)
      · exact .inl ((mem r).mpr (.inr (List.mem_singleton.mp z)))
/-- nodes that reach r and stand in no part yet, r the last in the order that does not, reach each other -/
theorem late {order A B : List N} (F : FinOk g order) (ho : order = A ++ r :: B) (hB : ∀ x ∈ B, x ∈ part0.map (·.1)) (P : Ptn g part0 c) : ∀ (k : Nat) (x : N) (i : Nat), order[i]? = some x → order.length - i ≤ k → Rch g x r → x ∉ part0.map (·.1) → Co g x r
  | 0, x, i, hi, hk, _, _ => by
    have := (List.getElem?_eq_some_iff.mp hi).1
    omega
  | k + 1, x, i, hi, hk, hr, hx => by
    have il := (List.getElem?_eq_some_iff.mp hi).1
    rcases Nat.lt_trichotomy i A.length with lt | eq | gt
    · have nd := F.nd
      have rn : r ∉ order.take (i + 1) := by
        rw [ho, List.take_append_of_le_length (by omega)]
        intro z
        rw [ho] at nd
        exact (List.nodup_append.mp nd).2.2 r (List.mem_of_mem_take z) r List.mem_cons_self rfl
      obtain ⟨w, w1, w2, w3, w4⟩ := F.fin i x hi r hr rn
      have wk : w ∈ order := by
        have : x ∈ keys g := (F.all x).mp (List.mem_of_getElem? hi)
        refine (F.all w).mpr ?_
        rcases w3 with _ | ⟨e, _⟩
        · exact this
        · exact e.key
      obtain ⟨j, hj⟩ := List.getElem?_of_mem wk
      have jl := (List.getElem?_eq_some_iff.mp hj).1
      have ij : i < j := by
        rcases Nat.lt_or_ge i j with z | z
        · exact z
        · exact absurd (List.mem_of_getElem? (l := order.take (i + 1)) (i := j) (by rw [List.getElem?_take]; rw [if_pos (by omega)]; exact hj)) w1
      have wx : w ∉ part0.map (·.1) := fun z => hx (P.full w x z ⟨w3, w2⟩)
      exact Co.trans ⟨w2, w3⟩ (late F ho hB P k w j hj (by omega) w4 wx)
    · have : x = r := by
        rw [ho, eq, List.getElem?_append_right (Nat.le_refl _)] at hi
        simpa using hi.symm
      rw [this]; exact Co.refl r
    · have : x ∈ B := by
        rw [ho, List.getElem?_append_right (by omega)] at hi
        have e : i - A.length = (i - A.length - 1) + 1 := by omega
        rw [e, List.getElem?_cons_succ] at hi
        exact List.mem_of_getElem? hi
      exact absurd (hB x this) hx
theorem Fld.end_ {order A B : List N} (W : Wf g) (F : FinOk g order) (ho : order = A ++ r :: B) (hB : ∀ x ∈ B, x ∈ part0.map (·.1)) (P : Ptn g part0 c) (hr : r ∉ part0.map (·.1)) (D : Fld g part0 c r part []) :
    Ptn g part (c + 1) ∧ luk part r = some (c : Int) := by
  have rp : r ∈ part.map (·.1) := D.root.elim id fun z => by cases z
  have rk : r ∈ keys g := D.sub r rp
  have isCo : ∀ x, x ∈ part.map (·.1) → x ∉ part0.map (·.1) → Co g x r := fun x h k => by
    obtain ⟨i, hi⟩ := List.getElem?_of_mem ((F.all x).mpr (D.sub x h))
    exact late F ho hB P _ x i hi (Nat.le_refl _) (D.new x h k).2 k
  have coIn : ∀ x, Co g x r → x ∈ part.map (·.1) := by
    intro x hx
    have nx : ∀ y, Co g y r → y ∉ part0.map (·.1) := fun y hy z => hr (P.full y r z hy)
    -- backward along the way
    have go : ∀ {y z : N}, Rch g y z → Rch g z y → Co g z r → z ∈ part.map (·.1) → y ∈ part.map (·.1) := by
      intro y z a
      induction a with
      | refl => intro _ _ h; exact h
      | @step u v w e t ih =>
        intro back hz hm
        have cv : Co g v r := Co.trans ⟨t, back.trans (.one e)⟩ hz
        have mv := ih (back.trans (.one e)) hz hm
        rcases D.clo v mv (nx v cv) u e with q | q
        · exact q
        · cases q
    exact go hx.1 hx.2 (Co.refl r) rp
  have inOld : ∀ x a, luk part x = some a → x ∈ part0.map (·.1) → luk part0 x = some a := fun x a h k => by
    obtain ⟨b, hb⟩ := luk_some k
    have := D.old x b hb
    rw [h] at this
    cases this
    exact hb
  refine ⟨⟨D.nd, D.sub, fun x a h => ?_, fun u v a b ha hb => ?_, fun u v h hc => ?_, ?_⟩, (D.new r rp hr).1⟩
  · by_cases k : x ∈ part0.map (·.1)
    · have := P.rng x a (inOld x a h k)
      omega
    · have := (D.new x (luk_key h) k).1
      rw [h] at this
      cases this
      omega
  · by_cases ku : u ∈ part0.map (·.1)
    · by_cases kv : v ∈ part0.map (·.1)
      · exact P.co u v a b (inOld u a ha ku) (inOld v b hb kv)
      · have e1 := P.rng u a (inOld u a ha ku)
        have e2 := (D.new v (luk_key hb) kv).1
        rw [hb] at e2
        cases e2
        exact ⟨fun z => by omega, fun z => absurd (P.full u v ku z) kv⟩
    · have e1 := (D.new u (luk_key ha) ku).1
      rw [ha] at e1
      cases e1
      by_cases kv : v ∈ part0.map (·.1)
      · have e2 := P.rng v b (inOld v b hb kv)
        exact ⟨fun z => by omega, fun z => absurd (P.full v u kv z.symm) ku⟩
      · have e2 := (D.new v (luk_key hb) kv).1
        rw [hb] at e2
        cases e2
        exact ⟨fun _ => (isCo u (luk_key ha) ku).trans (isCo v (luk_key hb) kv).symm, fun _ => rfl⟩
  · by_cases ku : u ∈ part0.map (·.1)
    · obtain ⟨b, hb⟩ := luk_some (P.full u v ku hc)
      exact luk_key (D.old v b hb)
    · exact coIn v (hc.symm.trans (isCo u h ku))
  · -- r is new
    have h1 := P.cnt
    have h2 : part0.length < part.length := by
      have nd' : (r :: part0.map (·.1)).Nodup := List.nodup_cons.mpr ⟨hr, P.nd⟩
      have := nd_len (m := part.map (·.1)) nd' fun x hx => by
        rcases List.mem_cons.mp hx with z | z
        · rw [z]; exact rp
        · obtain ⟨b, hb⟩ := luk_some z
          exact luk_key (D.old x b hb)
      simp at this
      omega
    omega
/-- the numbering in the end -/
structure PartOk (g : Gph N) (part : List (N × Int)) : Prop where
  nd : (part.map (·.1)).Nodup
  all : ∀ n, n ∈ part.map (·.1) ↔ n ∈ keys g
  rng : ∀ n c, luk part n = some c → 0 ≤ c ∧ c < part.length
  co : ∀ u v a b, luk part u = some a → luk part v = some b → (a = b ↔ Co g u v)
theorem Ptn.end_ (P : Ptn g part c) (all : ∀ n ∈ keys g, n ∈ part.map (·.1)) : PartOk g part :=
  ⟨P.nd, fun n => ⟨P.sub n, all n⟩, fun n a h => by have := P.rng n a h; have := P.cnt; omega, P.co⟩
end
end EL

set_option Elab.async false
set_option linter.all false
set_option maxRecDepth 100000
set_option maxHeartbeats 2000000
/-! comprehensions of any kind: one loop rule, one block rule. -/
namespace EL
open PySem PySem.Spec PyProof.Rows L2

section
variable {prog : Program} {w : World} {A : Around} {R : Result → Shared → Prop} {s : Shared}
abbrev testsAt (ifs : List Expr) (env : PySem.Env) : Sem Bool := forIn ifs true fun c r => if r = true then do let ok ← isTrue c env (eval c env); pure (ForInStep.yield ok) else pure (ForInStep.yield r)
/-- the loop of one clause, whatever a turn that passes the tests does -/
theorem loop_gen {e : Expr} {d : Nat} {tg iter : Expr} {ifs : List Expr} {step : Sem Unit} {it acc : Value} {env : PySem.Env}
    (ht : compTurn e d it acc env = (do
      standAt iter.pos
      match ← pyNext it with
      | none => pure (.done .next)
      | some v =>
        letOwnedTupleGo tg it v
        assign tg env v
        let mut ok := true
        for c in ifs do
          if ok then ok ← isTrue c env (eval c env)
        if ok then step
        again (.compLoop e d it acc env)))
    (hf : (Code.compLoop e d it acc env).isFrame = false) (hA : A.under (.compLoop e d it acc env) = A) (hq : (Code.compLoop e d it acc env).quiet = true)
    (I : Nat → Shared → Prop)
    (turn : ∀ n s, I n s → wpAny (model prog w) A (pyNext it) (fun r s₁ => match r with
      | none => R (.ok .next) s₁
      | some v => wpAny (model prog w) A (letOwnedTupleGo tg it v) (fun _ s₂ => wpAny (model prog w) A (assign tg env v) (fun _ s₃ => wpAny (model prog w) A (testsAt ifs env) (fun ok s₄ =>
          if ok = true then wpAny (model prog w) A step (fun _ s₅ => ∃ m, m < n ∧ I m s₅) (fun _ _ => False) s₄ else ∃ m, m < n ∧ I m s₄) (fun _ _ => False) s₃) (fun _ _ => False) s₂) (fun _ _ => False) s₁) (fun _ _ => False) s)
    (n : Nat) (h : I n s) : codeAny (model prog w) A (.compLoop e d it acc env) R s := by
  have F : ∀ {α : Type} {t : Sem α} {Q Q' : α → Shared → Prop} {E : Value → Shared → Prop} {s : Shared}, wpAny (model prog w) A t Q (fun _ _ => False) s → (∀ a s, Q a s → Q' a s) → wpAny (model prog w) A t Q' E s := fun h k => wpAny_mono h k fun _ _ z => z.elim
  refine codeAny_loop hq I (fun n s hI => ?_) n h
  have hden : (model prog w).den (.compLoop e d it acc env) = (compTurn e d it acc env).onRaise (fun x => do noteFrame x env; theTreesLotGoes x) := by
    show (if (Code.compLoop e d it acc env).isFrame = true then _ else _) = _
    rw [hf]
    exact if_neg Bool.false_ne_true
  rw [hA, hden]
  refine wpAny_noted ?_
  rw [ht]
  refine wpAny_bind (wpAny_standAt (wpAny_bind (F (turn n s hI) fun r s₁ h₁ => ?_)))
  cases r with
  | none => exact wpAny_pure h₁
  | some v =>
    refine wpAny_bind (F h₁ fun _ s₂ h₂ => wpAny_bind (F h₂ fun _ s₃ h₃ => wpAny_bind (F h₃ fun ok s₄ h₄ => ?_)))
    cases ok with
    | false => exact wpAny_pure ⟨rfl, h₄⟩
    | true => exact wpAny_bind (F h₄ fun _ s₅ h₅ => wpAny_pure ⟨rfl, h₅⟩)
end

/-- what a turn does when it passes the tests -/
structure PStp (X : Cx) (step : Sem Unit) (t : L2.St → Hp → (Hp → Prop) → Prop) : Prop where
  run : ∀ (pins : List (Addr × Obj)) (s : Shared) (σ : L2.St) (H : Hp) (Q : Hp → Prop), Inv X pins σ H s → t σ H Q → wpAny (model X.prog X.w) X.A step (fun _ s' => ∃ H', Inv X pins σ H' s' ∧ Q H') (fun _ _ => False) s
/-- the turns of a clause, by the invariant W -/
def Turns (J : It) (g : TG) (tt : TT) (ts : L2.St → Hp → (Hp → Prop) → Prop) (vs : List Nat) (σ : L2.St) (H : Hp) (Q : Hp → Prop) : Prop := ∃ W : Nat → Nat → Hp → Prop, (∃ m, W 0 m H) ∧ ∀ i m H, W i m H →
  (J.stop i H ∧ Q H) ∨ (J.go i H ∧ ∃ Nx : Hp → Prop, (∀ H', Nx H' → ∃ m', m' < m ∧ W (i + 1) m' H') ∧ ∀ x H', J.yld i H x H' → g x σ H' fun σ2 H2 => wipe σ2 vs = σ ∧ tt σ2 H2 fun b H3 =>
    if b = true then ts σ2 H3 Nx else Nx H3)
theorem blk_loop {X : Cx} {e : Expr} {d : Nat} {tg iter : Expr} {ifs : List Expr} {step : Sem Unit} {acc : Value} {it : Addr} {fp : List Addr} {J : It} {tn : Nat → Heap → Prop} {g : TG} {tt : TT} {ts : L2.St → Hp → (Hp → Prop) → Prop} {vs : List Nat}
    {pins : List (Addr × Obj)} {s : Shared} {σ : L2.St} {H : Hp} {Q : Hp → Prop} {R : Result → Shared → Prop}
    (ht : compTurn e d (.ref it) acc X.env = (do
      standAt iter.pos
      match ← pyNext (.ref it) with
      | none => pure (.done .next)
      | some v =>
        letOwnedTupleGo tg (.ref it) v
        assign tg X.env v
        let mut ok := true
        for c in ifs do
          if ok then ok ← isTrue c X.env (eval c X.env)
        if ok then step
        again (.compLoop e d (.ref it) acc X.env)))
    (hf : (Code.compLoop e d (.ref it) acc X.env).isFrame = false) (hA : X.A.under (.compLoop e d (.ref it) acc X.env) = X.A) (hq : (Code.compLoop e d (.ref it) acc X.env).quiet = true)
    (hx : X.xe = fun _ _ => False) (hc : X.calm = true) (I : Inv X pins σ H s) (T : Turn X.prog X.w X.K tg J fp it tn) (st : tn 0 s.heap) (f : ∀ b ∈ fp, FpOk X pins H b) (pg : PG X tg g) (pt : PTs X ifs tt) (ps : PStp X step ts) (h : Turns J g tt ts vs σ H Q)
    (fin : ∀ H' s', Inv X pins σ H' s' → Q H' → R (.ok .next) s') : codeAny (model X.prog X.w) X.A (.compLoop e d (.ref it) acc X.env) R s := by
  obtain ⟨W, ⟨m0, w0⟩, turn⟩ := h
  have fe : ∀ {α : Type} {t : Sem α} {Q : α → Shared → Prop} {s : Shared}, wpAny (model X.prog X.w) X.A t Q X.xe s → wpAny (model X.prog X.w) X.A t Q (fun _ _ => False) s := fun h => by rw [hx] at h; exact h
  refine loop_gen ht hf hA hq (fun n s' => ∃ i H', Inv X pins σ H' s' ∧ tn i s'.heap ∧ (∀ b ∈ fp, H' b = none) ∧ W i n H') ?_ m0 ⟨0, H, I, st, fun b hb => (f b hb).1, w0⟩
  rintro n s1 ⟨i, H1, I1, st1, n1, w1⟩
  have f1 : ∀ {H' : Hp}, (∀ b ∈ fp, H' b = none) → ∀ b ∈ fp, FpOk X pins H' b := fun z b hb => ⟨z b hb, (f b hb).2⟩
  rcases turn i n H1 w1 with ⟨stop, q⟩ | ⟨go, Nx, hNx, more⟩
  · refine thn (T.done X rfl rfl rfl hc i pins s1 σ H1 (fun _ _ => False) I1 (f1 n1) st1 stop) fun r s2 ⟨hr, I2⟩ => ?_
    subst hr
    exact fin H1 s2 I2 q
  · refine thn (T.item X rfl rfl rfl hc i pins s1 σ H1 (fun _ _ => False) I1 (f1 n1) st1 go) fun r s2 ⟨u, hr, h2⟩ => ?_
    subst hr
    refine thn h2 fun _ s3 ⟨x, H3, I3, rx, yx, st3, n3⟩ => ?_
    have I3' := I3.pinned (f1 n3) (T.obj _ _ st3)
    refine thn (fe (pg.run _ s3 σ H3 x u _ I3' rx (more x H3 yx))) fun _ s4 ⟨σ4, H4, I4, hw, q4⟩ => ?_
    refine thn (fe (pt.run _ s4 σ4 H4 _ I4 q4)) fun b s5 ⟨H5, I5, q5⟩ => ?_
    have back : ∀ {s' : Shared} {H' : Hp}, Inv X (pins ++ pinsAt fp s3.heap) σ4 H' s' → Nx H' → ∃ m, m < n ∧ ∃ i H', Inv X pins σ H' s' ∧ tn i s'.heap ∧ (∀ b ∈ fp, H' b = none) ∧ W i m H' := fun {s' H'} I' nx => by
      obtain ⟨m', lt, w'⟩ := hNx H' nx
      have pin : ∀ b ∈ fp, ∀ o, s3.heap.get? b = some o → s'.heap.get? b = some o ∧ H' b = none := fun b hb o z =>
        let y := I'.pin (b, o) (List.mem_append_right _ (List.mem_append_right _ (mem_pinsAt hb z)))
        ⟨y.1, y.2.1⟩
      refine ⟨m', lt, i + 1, H', I'.unpinned.weak (by rw [← hw, wipe_length]) (fun j v z => (wipe_some (vs := vs) (by rw [hw]; exact z)).1), T.keep _ _ _ st3 fun b hb o z => (pin b hb o z).1, fun b hb => ?_, w'⟩
      obtain ⟨o, z, _⟩ := T.obj _ _ st3 b hb
      exact (pin b hb o z).2
    cases b with
    | false =>
      rw [if_neg Bool.false_ne_true] at q5 ⊢
      exact back I5 q5
    | true =>
      rw [if_pos rfl] at q5 ⊢
      exact thn (ps.run _ s5 σ4 H5 _ I5 q5) fun _ s6 ⟨H6, I6, q6⟩ => back I6 q6
/-- a comprehension: its block -/
def tCc (wi : TI) (g : TG) (tt : TT) (ts : Addr → L2.St → Hp → (Hp → Prop) → Prop) (vs : List Nat) (emp : Addr → HO) : TE := fun σ H Q => wi σ H fun J H1 => ∀ D, H1 D = none → Turns J g tt (ts D) vs (wipe σ vs) (upd H1 D (emp D)) (Q (.ref D))
theorem wipe_wipe (σ : L2.St) (vs : List Nat) : ∀ ws : List Nat, (∀ v ∈ ws, v ∈ vs) → wipe (wipe σ vs) ws = wipe σ vs
  | [], _ => rfl
  | v :: ws, h => by
    show (wipe (wipe σ vs) ws).set v none = wipe σ vs
    rw [wipe_wipe σ vs ws fun x hx => h x (List.mem_cons_of_mem _ hx)]
    have hv : v ∈ vs := h v List.mem_cons_self
    have key : ∀ us : List Nat, v ∈ us → (wipe σ us)[v]? = some none ∨ (wipe σ us).length ≤ v := by
      intro us
      induction us with
      | nil => intro q; cases q
      | cons u us ih =>
        intro q
        show ((wipe σ us).set u none)[v]? = some none ∨ ((wipe σ us).set u none).length ≤ v
        rw [List.length_set]
        by_cases e : u = v
        · subst e
          rcases Nat.lt_or_ge u (wipe σ us).length with z | z
          · exact .inl (List.getElem?_set_self z)
          · exact .inr z
        · rw [List.getElem?_set_ne e]
          exact ih ((List.mem_cons.mp q).resolve_left fun z => e z.symm)
    refine List.ext_getElem? fun i => ?_
    rw [List.getElem?_set]
    split
    · rename_i e
      subst e
      split
      · rename_i z
        rcases key vs hv with k | k
        · exact k.symm
        · omega
      · rename_i z
        rw [List.getElem?_eq_none (by omega)]
    · rfl
section
variable {X : Cx} {e tg iter : Expr} {ifs : List Expr} {rest : List Comprehension} {scope : Scope} {own : List (Str × Nat)} {pos' : Pos} {wi : TI} {g : TG} {tt : TT} {ts : Addr → L2.St → Hp → (Hp → Prop) → Prop} {newAcc : Sem Value} {o0 : Heap → Obj} {emp : Addr → HO} {step : Addr → PySem.Env → Sem Unit}
theorem cc_core {pins : List (Addr × Obj)} {s : Shared} {σ : L2.St} {H : Hp} {Q : VK} (hcl : clausesOf e = ⟨tg, iter, ifs, 0⟩ :: rest)
    (hnew : ∀ (s : Shared) (Q : Value → Shared → Prop), Q (.ref s.heap.objs.size) { s with heap := s.heap.push (o0 s.heap) } → wpAny (model X.prog X.w) X.A newAcc Q X.xe s)
    (hemp : ∀ (H : Hp) (h : Heap), sysModules < h.objs.size → ObjOk X.prog X.w H (h.push (o0 h)) h.objs.size (emp h.objs.size)) (hnf : ∀ h, (o0 h).isFreed = false)
    (hst : ∀ (it acc : Value) (env : PySem.Env) (R : Result → Shared → Prop) (s : Shared), codeAny (model X.prog X.w) X.A (.compLoop e 0 it acc env) R s → wpAny (model X.prog X.w) X.A (pyIter it) (fun it' s' => codeAny (model X.prog X.w) X.A (.compLoop e 0 it' acc env) R s')
      (notedBy (model X.prog X.w) X.A env fun x s' => R (.error x) s') s → codeAny (model X.prog X.w) X.A (.compStart e 0 it acc env) R s)
    (ht : ∀ (it D : Addr) (env : PySem.Env), compTurn e 0 (.ref it) (.ref D) env = (do
      standAt iter.pos
      match ← pyNext (.ref it) with
      | none => pure (.done .next)
      | some v =>
        letOwnedTupleGo tg (.ref it) v
        assign tg env v
        let mut ok := true
        for c in ifs do
          if ok then ok ← isTrue c env (eval c env)
        if ok then step D env
        again (.compLoop e 0 (.ref it) (.ref D) env)))
    (hfr : ∀ (it D : Addr) (env : PySem.Env) (A : Around), (Code.compLoop e 0 (.ref it) (.ref D) env).isFrame = false ∧ A.under (.compLoop e 0 (.ref it) (.ref D) env) = A ∧ (Code.compLoop e 0 (.ref it) (.ref D) env).quiet = true)
    (hc : X.calm = true) (hN : X.N.Nodup) (I : Inv X pins σ H s) (hi : PI X tg iter wi) (ok : BlkOk X.N X.env.scope scope own)
    (hg : ∀ (s : Shared) (H : Hp) (C : Addr) (cl : List (Str × Addr)) (fp : List Addr), PG (X.blk s H scope (compEnvC scope cl C X.env) fp) tg g) (htt : ∀ (s : Shared) (H : Hp) (C : Addr) (cl : List (Str × Addr)) (fp : List Addr), PTs (X.blk s H scope (compEnvC scope cl C X.env) fp) ifs tt)
    (hs : ∀ (s : Shared) (H : Hp) (C : Addr) (cl : List (Str × Addr)) (fp : List Addr) (D : Addr), PStp (X.blk s H scope (compEnvC scope cl C X.env) fp) (step D (compEnvC scope cl C X.env)) (ts D)) (hsi : ∀ x, foldedSetIterable iter X.env x = pure x)
    (h : tCc wi g tt ts (own.map (·.2)) emp σ H Q) {use : Option (Value → Sem Unit)} {Qf : Value → Shared → Prop}
    (hRR : ∀ D C s' m H', Inv X pins σ H' s' → Q (.ref D) H' → s'.heap.Ns C m → FpOk X pins H' C → compPost (model X.prog X.w) X.A X.xe use Qf (.ref D) C (.ok .next) s') :
    wpAny (model X.prog X.w) X.A (comprehension e scope X.env pos' newAcc false (eval iter X.env) use) Qf X.xe s := by
  have hfree : ∀ y ∈ scope.names, y.2 = .free → ∃ c, X.env.cells.lookup y.1 = some c := fun y hy z => (ok.free y hy z).elim (fun k => I.ok.has _ (.inl k)) fun k => I.ok.has _ (.inr k)
  refine wpAny_comprehension_free hcl hsi (closure_ok hfree) ok.kind (fun y hy z => by rw [ok.uniq y hy, z]) (thn (hi.run pins s σ H _ I h) fun xv s1 hx => thn hx fun itv s2 ⟨it, fp, tn, J, H2, ei, I2, T, st2, f2, q⟩ => ?_)
  subst ei
  refine hnew s2 _ (newEnv_comp ?_)
  have hD : H2 s2.heap.objs.size = none := I2.hok.fresh (Nat.le_refl _)
  have q := q _ hD
  have keep : ∀ b u, s2.heap.get? b = some u → (s2.heap.push (o0 s2.heap)).get? b = some u := fun b u z => Heap.get?_push_of_some _ z
  have I3 : Inv X pins σ (upd H2 s2.heap.objs.size (emp s2.heap.objs.size)) { s2 with heap := s2.heap.push (o0 s2.heap) } := I2.laid (t' := s2.toks) keep (Nat.le_refl _) (hemp _ _ I2.big)
  have bnd : ∀ b ∈ fp, b < s2.heap.objs.size := fun b hb => let ⟨o, z, _⟩ := T.obj _ _ st2 b hb; Heap.lt_size z
  have f3 : ∀ b ∈ fp, FpOk X pins (upd H2 s2.heap.objs.size (emp s2.heap.objs.size)) b ∧ b < (s2.heap.push (o0 s2.heap)).objs.size := fun b hb =>
    ⟨⟨by rw [upd_ne (Nat.ne_of_lt (bnd b hb))]; exact (f2 b hb).1, (f2 b hb).2⟩, by rw [Heap.size_push]; exact Nat.lt_succ_of_lt (bnd b hb)⟩
  have I4 := block_start I3 ok hN f3
  generalize hG : upd H2 s2.heap.objs.size (emp s2.heap.objs.size) = G at I3 f3 I4 q
  generalize hs3 : ({ s2 with heap := s2.heap.push (o0 s2.heap) } : Shared) = s3 at I3 I4 ⊢
  have h3 : s3.heap = s2.heap.push (o0 s2.heap) := by rw [← hs3]
  rw [← h3] at f3
  have pg := hg s3 G s3.heap.objs.size (cellsFrom (s3.heap.objs.size + 1) scope.names (cloFrom X.env.cells scope.names [])) fp
  have pt := htt s3 G s3.heap.objs.size (cellsFrom (s3.heap.objs.size + 1) scope.names (cloFrom X.env.cells scope.names [])) fp
  have pst := hs s3 G s3.heap.objs.size (cellsFrom (s3.heap.objs.size + 1) scope.names (cloFrom X.env.cells scope.names [])) fp s2.heap.objs.size
  have cL : (compEnvC scope (cellsFrom (s3.heap.objs.size + 1) scope.names (cloFrom X.env.cells scope.names [])) s3.heap.objs.size X.env).locals = s3.heap.objs.size := rfl
  generalize hce : compEnvC scope (cellsFrom (s3.heap.objs.size + 1) scope.names (cloFrom X.env.cells scope.names [])) s3.heap.objs.size X.env = ce at I4 pg pt pst cL
  have st4 : tn 0 (pushCells (s3.heap.push { cls := .type "dict", data := .dict #[] }) scope.names) := T.keep _ _ _ st2 fun b hb o z => pushCells_keeps _ _ _ _ (Heap.get?_push_of_some _ (by rw [h3]; exact keep b o z))
  have fblk : ∀ b ∈ fp, FpOk (X.blk s3 G scope ce fp) [] G b := fun b hb => ⟨(f3 b hb).1.1, (I4.ok.exf b hb).1, I4.ok.exfs b hb, .inl hb, fun x c z => (I4.ok.exf b hb).2 x c z, fun p hp => by cases hp⟩
  show codeAny _ _ (.compStart e 0 (.ref it) (.ref s2.heap.objs.size) (compEnvC scope (cellsFrom (s3.heap.objs.size + 1) scope.names (cloFrom X.env.cells scope.names [])) s3.heap.objs.size X.env)) _ _
  rw [hce]
  have loop := blk_loop (X := X.blk s3 G scope ce fp) (R := compPost (model X.prog X.w) X.A X.xe use Qf (.ref s2.heap.objs.size) s3.heap.objs.size) (ht it s2.heap.objs.size ce) (hfr _ _ _ X.A).1 (hfr _ _ _ X.A).2.1 (hfr _ _ _ X.A).2.2 rfl hc I4 T st4 fblk pg pt pst q fun H' s' I' qq => by
    have I7 : Inv X pins σ H' s' := I3.call' (ch := fp) I'.os I'.base I'.hok I'.bare fun b hb => ⟨(f3 b hb).1.2.2.2.1, (f3 b hb).1.2.1, (f3 b hb).1.2.2.2.2.1, (f3 b hb).1.2.2.2.2.2⟩
    have nC : H' s3.heap.objs.size = none := by
      have z : H' ce.locals = none := I'.free
      rw [cL] at z
      exact z
    obtain ⟨m, hn, _⟩ := I'.loc
    have hn : s'.heap.Ns ce.locals m := hn
    rw [cL] at hn
    exact hRR _ _ s' m H' I7 qq hn (I3.fpOk (Nat.le_refl _) nC)
  exact hst _ _ _ _ _ loop (T.self X.A 0 _ _ _ st4 loop)
/-- its value kept -/
theorem cc_value {pins : List (Addr × Obj)} {σ : L2.St} {Q : VK} : ∀ D C s' m H', Inv X pins σ H' s' → Q (.ref D) H' → s'.heap.Ns C m → FpOk X pins H' C → compPost (model X.prog X.w) X.A X.xe none (EP X pins σ Q) (.ref D) C (.ok .next) s' := fun D C s' m H' I' q hn ⟨f0, f1, f2, f3, f4, f5⟩ =>
  ⟨m, hn, fun h'' sb => ⟨.ref D, H', I'.turned (t' := s'.toks) (fun b o hb z => (sb.2 b hb).trans z) f0 f1 f3 f4 f5, rfl, q⟩⟩
/-- its value stored by a local name -/
theorem cc_store {pins : List (Addr × Obj)} {σ : L2.St} {D : Ends} {i : Nat} {y : Str} {py : Pos} (hN : X.N.Nodup) (hy : X.N[i]? = some y) (hyl : X.env.scope.names.lookup y = some .local) :
    ∀ Dl C s' m H', Inv X pins σ H' s' → gName i (.ref Dl) σ H' D.nx → s'.heap.Ns C m → FpOk X pins H' C → compPost (model X.prog X.w) X.A X.xe (some (assign (.Name y py) X.env)) (fun _ s' => SP X pins D .next s') (.ref Dl) C (.ok .next) s' := fun Dl C s' m H' I' q hn f => by
  show wpAny _ _ (assign (.Name y py) X.env (.ref Dl)) _ _ _
  refine wpAny_assign_Name (store_ok2 (v := V.ref Dl) I' hN hy (.inl hyl) rfl (fun s2 I2 ⟨a, sb, ha⟩ => ?_) (.inr hyl))
  obtain ⟨f0, f1, f2, f3, f4, f5⟩ := f
  have ne : C ≠ a := ha.elim (fun z => by rw [z]; exact f1) fun z q => f4 y a z q.symm
  exact ⟨m, hn.sameBut sb ne, fun h3 sb3 => ⟨_, H', I2.turned (t' := s2.toks) (fun b o hb z => (sb3.2 b hb).trans z) f0 f1 f3 f4 f5, q⟩⟩
end

/-! ### {k: v for .. in .. if ..}, keys as Nd says -/
theorem d_dictSetP {X : Cx} {pins : List (Addr × Obj)} {σ : L2.St} {H H' : Hp} {s : Shared} {E : Value → Shared → Prop} {D : Addr} {y v : V} {u r : Value} {Q : Unit → Shared → Prop} (hu : X.A.units + 1 < cLine) (I : Inv X pins σ H s) (g : DPut H D y v H') (ry : RelV y u) (rv : RelV v r)
    (h : ∀ s', Inv X pins σ H' s' → Q () s') : wpAny (model X.prog X.w) X.A (dictSet D u r) Q E s := by
  rcases g with ⟨kvs, k, e, rfl, l, rfl⟩ | ⟨kvs, k, b, e, rfl, eb, l, rfl⟩
  · exact d_dictSet I e l ry rv h
  · obtain rfl : u = Value.ref b := ry
    obtain ⟨z, hd, xs, rel, dd⟩ := dt_of I.hok e
    have hz : xs.length ≤ sizeLine := by rw [← Paired.length rel]; exact z
    refine wpAny_dictSet_heap (hsz := hz) (show X.A.units < cLine by omega) (key_of I.hok eb) dd fun h' dd' hs => h _ ?_
    obtain ⟨q, es, ep, hq, h2, h3, h4, _, h5⟩ := dd'
    refine d_write I (by rw [e]; exact True.intro) hs ⟨q, hq⟩ ⟨by have := length_putK kvs k v; omega, hd, _, (rel.put k eb rv).keeps fun c ys ec => ?_, q, es, ep, hq, h2, h3, h4, h5⟩
    rw [upd_ne (ne_of ec e (fun z => nomatch z))]
    exact ec
def tsD (tk tv : TE) (D : Addr) : L2.St → Hp → (Hp → Prop) → Prop := fun σ H Q => tk σ H fun y H1 => tv σ H1 fun z H2 => ∃ H3, DPut H2 D y z H3 ∧ Q H3
section
variable {X : Cx} {kx vx tg iter : Expr} {ifs : List Expr} {scope : Scope} {own : List (Str × Nat)} {pos : Pos} {wi : TI} {g : TG} {tt : TT} {tk tv : TE}
theorem dc_run {pins : List (Addr × Obj)} {s : Shared} {σ : L2.St} {H : Hp} {Q : VK} {pos' : Pos} {emp : HO} (hemp : ∀ (H : Hp) (h : Heap), sysModules < h.objs.size → ObjOk X.prog X.w H (h.push { cls := .type "dict", data := .dict #[] }) h.objs.size emp) (hu : X.A.units + 1 < cLine) (hc : X.calm = true) (hN : X.N.Nodup) (I : Inv X pins σ H s) (hi : PI X tg iter wi) (ok : BlkOk X.N X.env.scope scope own)
    (hg : ∀ (s : Shared) (H : Hp) (C : Addr) (cl : List (Str × Addr)) (fp : List Addr), PG (X.blk s H scope (compEnvC scope cl C X.env) fp) tg g) (htt : ∀ (s : Shared) (H : Hp) (C : Addr) (cl : List (Str × Addr)) (fp : List Addr), PTs (X.blk s H scope (compEnvC scope cl C X.env) fp) ifs tt)
    (hk : ∀ (s : Shared) (H : Hp) (C : Addr) (cl : List (Str × Addr)) (fp : List Addr), PE (X.blk s H scope (compEnvC scope cl C X.env) fp) kx tk)
    (hv : ∀ (s : Shared) (H : Hp) (C : Addr) (cl : List (Str × Addr)) (fp : List Addr), PE (X.blk s H scope (compEnvC scope cl C X.env) fp) vx tv) (hsi : ∀ x, foldedSetIterable iter X.env x = pure x)
    (h : tCc wi g tt (tsD tk tv) (own.map (·.2)) (fun _ => emp) σ H Q) {use : Option (Value → Sem Unit)} {Qf : Value → Shared → Prop}
    (hRR : ∀ D C s' m H', Inv X pins σ H' s' → Q (.ref D) H' → s'.heap.Ns C m → FpOk X pins H' C → compPost (model X.prog X.w) X.A X.xe use Qf (.ref D) C (.ok .next) s') :
    wpAny (model X.prog X.w) X.A (comprehension (.DictComp kx vx [⟨tg, iter, ifs, 0⟩] scope pos) scope X.env pos' newDict false (eval iter X.env) use) Qf X.xe s := by
  refine cc_core (e := .DictComp kx vx [⟨tg, iter, ifs, 0⟩] scope pos) (rest := []) (o0 := fun _ => { cls := .type "dict", data := .dict #[] }) (emp := fun _ => emp)
    (step := fun D env => do
      let kv ← eval kx env
      let vv ← holding [kv] (eval vx env)
      standAt { kx.pos with endLine := vx.pos.endLine, endCol := vx.pos.endCol }
      holding [kv, vv] (dictSet D kv vv))
    rfl (fun s Q q => wpAny_newObj_type q) hemp (fun _ => rfl) (fun it acc env R s a b => codeAny_compStart_dict a b) (fun it D env => by rfl) (fun it D env A => ⟨rfl, rfl, rfl⟩) hc hN I hi ok hg htt (fun s H C cl fp D => ⟨fun pins s σ H Q I h => ?_⟩) hsi h hRR
  refine wpAny_bind (thn ((hk _ _ _ _ _).run pins s σ H _ I h) fun a s1 ⟨y, H1, I1, r1, q1⟩ => ?_)
  refine wpAny_bind (wpAny_holding (thn ((hv _ _ _ _ _).run pins s1 σ H1 _ I1 q1) fun b s2 ⟨z, H2, I2, r2, H3, dp, q2⟩ => ?_))
  exact wpAny_bind (wpAny_standAt (wpAny_holding (d_dictSetP (X := X.blk _ _ _ _ _) hu I2 dp r1 r2 fun s3 I3 => ⟨H3, I3, q2⟩)))
section
variable {N : Type} [DecidableEq N] [nn : Nd N] (hu : X.A.units + 1 < cLine) (hc : X.calm = true) (hN : X.N.Nodup) (hi : PI X tg iter wi) (ok : BlkOk X.N X.env.scope scope own)
    (hg : ∀ (s : Shared) (H : Hp) (C : Addr) (cl : List (Str × Addr)) (fp : List Addr), PG (X.blk s H scope (compEnvC scope cl C X.env) fp) tg g) (htt : ∀ (s : Shared) (H : Hp) (C : Addr) (cl : List (Str × Addr)) (fp : List Addr), PTs (X.blk s H scope (compEnvC scope cl C X.env) fp) ifs tt)
    (hk : ∀ (s : Shared) (H : Hp) (C : Addr) (cl : List (Str × Addr)) (fp : List Addr), PE (X.blk s H scope (compEnvC scope cl C X.env) fp) kx tk)
    (hv : ∀ (s : Shared) (H : Hp) (C : Addr) (cl : List (Str × Addr)) (fp : List Addr), PE (X.blk s H scope (compEnvC scope cl C X.env) fp) vx tv)
include hu hc hN hi ok hg htt hk hv
theorem pe_dcN (hsi : ∀ x, foldedSetIterable iter X.env x = pure x := by intro _; rfl) :
    PE X (.DictComp kx vx [⟨tg, iter, ifs, 0⟩] scope pos) (tCc wi g tt (tsD tk tv) (own.map (·.2)) (fun _ => Nd.dic ([] : List (N × V)))) := by
  refine ⟨fun pins s σ H Q I h => ?_⟩
  rw [arm_eval_DictComp]
  exact dc_run (fun H h hb => nn.emp h hb) hu hc hN I hi ok hg htt hk hv hsi h cc_value
theorem ps_setDc {i : Nat} {y : Str} {py spos : Pos} (hy : X.N[i]? = some y) (hyl : X.env.scope.names.lookup y = some .local) (hsw : swapsWith (.DictComp kx vx [⟨tg, iter, ifs, 0⟩] scope pos) (some (.Name y py)) spos.line X.env = pure true) (hsi : ∀ x, foldedSetIterable iter X.env x = pure x := by intro _; rfl) :
    PS X (.Assign [.Name y py] (.DictComp kx vx [⟨tg, iter, ifs, 0⟩] scope pos) spos) (tAsg (tCc wi g tt (tsD tk tv) (own.map (·.2)) (fun _ => Nd.dic ([] : List (N × V)))) (gName i)) := by
  refine ⟨fun pins s σ H D I h => ?_⟩
  rw [exec_Assign_Name_used _ _ _ _ hsw]
  refine wpAny_bind (wpAny_standAt (wpAny_bind ?_))
  show wpAny _ X.A (do let _ ← comprehension (.DictComp kx vx [⟨tg, iter, ifs, 0⟩] scope pos) scope X.env (firstIterPos [⟨tg, iter, ifs, 0⟩] pos) newDict false (eval iter X.env) (some (assign (.Name y py) X.env))) _ _ s
  refine wpAny_bind (thn (dc_run (Q := fun x H1 => gName i x σ H1 D.nx) (Qf := fun _ s' => SP X pins D .next s') (fun H h hb => nn.emp h hb) hu hc hN I hi ok hg htt hk hv hsi h (cc_store hN hy hyl)) fun _ s' hq => wpAny_pure (wpAny_pure hq))
end
theorem sw_trueD {env : PySem.Env} {gs : List Comprehension} {py : Pos} {y : Str} {l : Nat} (hk : env.scope.kind = .function) (hy : env.scope.names.lookup y = some .local) (hl : (py.line == pos.line) = true)
    (ha : (scope.names.any fun (n, k) => n == y && (k == .local || k == .cell)) = false) : swapsWith (.DictComp kx vx gs scope pos) (some (.Name y py)) l env = pure true := by
  have ky : env.kindOf y = some .local := hy
  have hb : env.blockKind = .function := by unfold Env.blockKind; rw [hk]; rfl
  unfold swapsWith
  simp only [hb, ky, ha, Expr.pos, hl]
  rfl
end
end EL

set_option Elab.async false
set_option linter.all false
set_option maxRecDepth 100000
set_option maxHeartbeats 2000000
namespace EL
open PySem PySem.Spec PyProof.Rows L2
/-! the lists of predecessors -/
structure BRow (N : Type) where
  n : N
  a : Addr
  us : List N
  vs : List V
section
variable {N : Type} [DecidableEq N] [nn : Nd N]
def rowK (r : BRow N) : N × V := (r.n, .ref r.a)
def rowL (r : BRow N) : Addr × HO := (r.a, .lst r.vs)
def bwOf (rows : List (BRow N)) : List (N × List N) := rows.map fun r => (r.n, r.us)
variable {K : PySem.W.Frag} {F0 H0 F H : Hp} {L : List (Addr × HO)} {k : Lk} {σ : L2.St} {D : Ends}
/-- x = {node: [] for node in d}: a dict and lists of one's own -/
theorem w_bwd {i j jn : Nat} {d : Addr} {l : List (N × V)} (W : Wr F0 H0 L F H none) (hv : σ[j]? = some (some (.ref d))) (hjn : j ≠ jn) (hjl : jn < σ.length) (hd : F d = some (Nd.dic l)) (hn : (l.map (·.1)).Nodup) (hz : l.length ≤ 20000)
    (c : ∀ (E : Addr) (rows : List (BRow N)) F1 H1, Same F F1 → Wr F0 H0 ((E, Nd.dic (rows.map rowK)) :: (rows.map rowL ++ L)) F1 H1 none → rows.map (·.n) = l.map (·.1) → (∀ r ∈ rows, r.us = [] ∧ r.vs = []) → D.nx (σ.set i (some (.ref E))) H1) :
    tLock (tAsg (tCc (iKeys (tVar j)) (gName jn) tYes (tsD (tVar jn) (tLst tNil)) [jn] (fun _ => Nd.dic ([] : List (N × V)))) (gName i)) D σ H := by
  refine ⟨d, Nd.dic l, W.sm _ _ hd, Nd.mt _, fun od => ?_⟩
  have W1 := W.lockF hd (Nd.dct _) od
  unfold tAsg tCc
  refine nn.keys hv upd_same fun J go stop yld => ?_
  intro E hE
  have W2 := W1.new (o := Nd.dic ([] : List (N × V))) hE (isDct_notTup (Nd.dct _))
  have ws : wipe σ [jn] = σ.set jn none := rfl
  refine ⟨fun i m H' => ∃ (F' : Hp) (rows : List (BRow N)), m = l.length - i ∧ i ≤ l.length ∧ Same F F' ∧ Wr F0 H0 ((E, Nd.dic (rows.map rowK)) :: (rows.map rowL ++ L)) F' H' (some (d, od, Nd.dic l)) ∧ rows.map (·.n) = (l.map (·.1)).take i ∧ ∀ r ∈ rows, r.us = [] ∧ r.vs = [],
    ⟨l.length, F, [], by omega, Nat.zero_le _, Same.refl _, W2, rfl, fun r h => by cases h⟩, ?_⟩
  rintro i m H' ⟨F', rows, rfl, hi, sF, W3, hrows, hemp⟩
  have hlk := (W3.lk _ _ _ rfl).1
  by_cases hlt : i < l.length
  · refine .inr ⟨go i H' hlk hlt, fun H2 => ∃ (F' : Hp) (rows : List (BRow N)), i + 1 ≤ l.length ∧ Same F F' ∧ Wr F0 H0 ((E, Nd.dic (rows.map rowK)) :: (rows.map rowL ++ L)) F' H2 (some (d, od, Nd.dic l)) ∧ rows.map (·.n) = (l.map (·.1)).take (i + 1) ∧ ∀ r ∈ rows, r.us = [] ∧ r.vs = [],
      fun H2 ⟨F', rows, a, b, c, e, f⟩ => ⟨l.length - (i + 1), by omega, F', rows, rfl, a, b, c, e, f⟩, fun x H2 y => ?_⟩
    obtain ⟨e, n, w, h1, h2⟩ := yld i H' x H2 y
    subst e
    obtain ⟨F2, g2, hx⟩ := h2 F' W3.sub
    have W4 := W3.gro g2
    refine ⟨?_, ?_⟩
    · show ((wipe σ [jn]).set jn (some x)).set jn none = wipe σ [jn]
      rw [ws, List.set_set, List.set_set]
    unfold tYes
    dsimp only
    rw [if_pos rfl]
    refine ⟨x, by rw [ws, List.set_set, List.getElem?_set_self hjl], Nat.zero_le _, fun p hp => ?_⟩
    have W5 := W4.new (o := .lst []) hp rfl
    have hEat : upd H2 p (.lst []) E = some (Nd.dic (rows.map rowK)) := W5.at (j := 1) rfl
    have hkeys : n ∉ (rows.map rowK).map (·.1) := by
      have e2 : (rows.map rowK).map (·.1) = (l.map (·.1)).take i := by rw [← hrows, List.map_map]; rfl
      rw [e2]
      have hni : (l.map (·.1))[i]? = some n := by rw [List.getElem?_map, h1]; rfl
      intro z
      obtain ⟨q, hq⟩ := List.getElem?_of_mem z
      rw [List.getElem?_take] at hq
      split at hq
      · have := nd_ix hn hq hni
        omega
      · cases hq
    have hnd : ((rows.map rowK).map (·.1)).Nodup := by
      have e2 : (rows.map rowK).map (·.1) = (l.map (·.1)).take i := by rw [← hrows, List.map_map]; rfl
      rw [e2]
      exact (List.take_sublist ..).nodup hn
    have hlenr : rows.length ≤ 20000 := by
      have := congrArg List.length hrows
      simp at this
      omega
    refine ⟨_, Nd.put hEat hnd (W5.sub) hx (by rw [List.length_map]; exact Nat.lt_of_le_of_lt hlenr (by decide)), ?_⟩
    have eput : putA (rows.map rowK) n (.ref p) = (rows ++ [(⟨n, p, [], []⟩ : BRow N)]).map rowK := by
      rw [put_new _ (luk_none.mpr hkeys), List.map_append]; rfl
    have W6 := W5.set (j := 1) (l := E) (o := Nd.dic (rows.map rowK)) (u := Nd.dic (putA (rows.map rowK) n (.ref p))) rfl (isDct_notTup (Nd.dct _))
    refine ⟨F2, rows ++ [(⟨n, p, [], []⟩ : BRow N)], hlt, sF.trans g2.fx, ?_, ?_, fun r hr => ?_⟩
    · have W7 : Wr F0 H0 ((p, .lst []) :: (E, Nd.dic (putA (rows.map rowK) n (.ref p))) :: (rows.map rowL ++ L)) F2 (upd (upd H2 p (.lst [])) E (Nd.dic (putA (rows.map rowK) n (.ref p)))) (some (d, od, Nd.dic l)) := W6
      rw [eput] at W7 ⊢
      refine ⟨W7.gr, W7.sm, W7.lk, ?_, fun q hq => W7.ow q ?_⟩
      · have := W7.nd
        simp only [List.map_cons, List.map_append, List.map_nil] at this ⊢
        have perm : (p :: E :: (List.map (fun x => x.1) (rows.map rowL) ++ L.map (·.1))).Perm (E :: (List.map (fun x => x.1) (rows.map rowL) ++ [p] ++ L.map (·.1))) := by
          refine (List.Perm.swap _ _ _).trans (List.Perm.cons _ ?_)
          rw [List.append_assoc]
          exact List.perm_middle.symm
        exact perm.nodup_iff.mp this
      · simp only [List.map_append, List.mem_cons, List.mem_append, List.map_cons, List.map_nil, List.not_mem_nil, or_false] at hq ⊢
        rcases hq with z | (z | z) | z
        · exact .inr (.inl z)
        · exact .inr (.inr (.inl z))
        · exact .inl z
        · exact .inr (.inr (.inr z))
    · rw [List.map_append, hrows, List.take_succ]
      rw [List.getElem?_map, h1]; rfl
    · rcases List.mem_append.mp hr with z | z
      · exact hemp r z
      · rw [List.mem_singleton.mp z]; exact ⟨rfl, rfl⟩
  · have e : i = l.length := by omega
    subst e
    refine .inl ⟨stop _ H' hlk (Nat.le_refl _), hlk, ?_⟩
    exact c E rows F' _ sF W3.unlockF (by rw [hrows, List.take_of_length_le (by simp)]) hemp
/-- all of a list of one's own things frozen -/
theorem Wr.frzAll : ∀ {M : List (Addr × HO)} {L : List (Addr × HO)} {F0 H0 F H : Hp} {k : Lk}, Wr F0 H0 (M ++ L) F H k → (∀ p ∈ M, ∀ od u, p.2 ≠ .frz od u) → ∃ F', Same F F' ∧ Wr F0 H0 L F' H k ∧ ∀ p ∈ M, F' p.1 = some p.2
  | [], L, F0, H0, F, H, k, W, _ => ⟨F, Same.refl _, W, fun p h => by cases h⟩
  | p :: M, L, F0, H0, F, H, k, W, nf => by
    obtain ⟨W1, s1⟩ := W.frz (j := 0) (l := p.1) (o := p.2) rfl (nf p List.mem_cons_self)
    obtain ⟨F', s2, W2, h⟩ := Wr.frzAll (M := M) W1 fun q hq => nf q (List.mem_cons_of_mem _ hq)
    refine ⟨F', s1.trans s2, W2, fun q hq => ?_⟩
    rcases List.mem_cons.mp hq with z | z
    · rw [z]; exact s2 _ _ upd_same
    · exact h q z
end
section
variable {K : PySem.W.Frag} {F0 H0 F H : Hp} {L : List (Addr × HO)} {k : Lk} {σ : L2.St} {D : Ends} {te tl : TE} {tb : TS} {g : TG} {P : Pr}
theorem ev_lit {v : V} (m : Mn P) (h : P F v) : EvP (tC v) σ F H P := fun F1 H1 g1 _ Q q => q v F1 H1 Gr.refl (m.mn g1.fx h)
theorem w_forEx {α : Type} {Pa : α → Pr} {C : α → Prop} (W : Wr F0 H0 L F H k) (h : EvP tl σ F H (isEx Pa C)) (c : ∀ o v F1 H1, C o → Gr F H F1 H1 → Wr F0 H0 L F1 H1 k → Pa o F1 v → tFor (iList K (tC v)) g tb D σ H1) : tFor (iList K tl) g tb D σ H :=
  h F H Gr.refl W.sub _ fun v F1 H1 g1 ⟨o, co, hp⟩ => c o v F1 H1 co g1 (W.gro g1) hp
theorem ev_revX {α : Type} {l : α → List Pr} {C : α → Prop} (m : ∀ o, MnL (l o)) (h : EvP te σ F H (isEx (fun o => isLst (l o)) C)) : EvP (tRevL K te) σ F H (isEx (fun o => isLst (l o).reverse) C) := fun F1 H1 g1 s Q q =>
  h F1 H1 g1 s _ fun v F2 H2 g2 ⟨o, co, a, vs, e, hF, hp⟩ => ⟨a, vs, e, SqL.of ((s.gr g2).lst hF), fun p hp' => by
    have f := (s.gr g2).free hp'
    exact q _ _ _ (g2.trans (Gr.newF hp' f)) ⟨o, co, p, vs.reverse, rfl, upd_same, (PrL.reverse ((m o).mn (same_new f) hp))⟩⟩
theorem w_aug {i : Nat} {a b : Int} {fn : Int → Int → Int} (W : Wr F0 H0 L F H k) (hx : σ[i]? = some (some (.int a))) (h : EvP te σ F H (isV (.int b))) (c : ∀ F1 H1, Gr F H F1 H1 → Wr F0 H0 L F1 H1 k → D.nx (σ.set i (some (.int (fn a b)))) H1) : tAug i te (ipI fn) D σ H :=
  ⟨_, hx, h F H Gr.refl W.sub _ fun v F1 H1 g1 e => ⟨a, b, rfl, e, c F1 H1 g1 (W.gro g1)⟩⟩
theorem ca_int1 {b : Bool} : CaP (fun xs H Q => (∃ i, xs = [V.int i] ∧ Q (.int i) H) ∨ ∃ k, xs = [.bl k] ∧ Q (.int (if k then 1 else 0)) H) [isV (.bl b)] (isV (.int (if b then 1 else 0))) F H := ca_val fun F1 H1 vs g s hp Q q => .inr ⟨b, PrL.isVs (ws := [.bl b]) hp, q⟩
/-- xs.extend(e) on a list of one's own -/
theorem w_ext {ta : TE} {Ps : List Pr} (W : Wr F0 H0 L F H k) {j : Nat} {l : Addr} {xs : List V} (hj : L[j]? = some (l, .lst xs)) (ha : EvP ta σ F H (isV (.ref l))) (h : EvP te σ F H (isLst Ps)) (hz : xs.length + Ps.length ≤ 100000)
    (c : ∀ vs F1 H1, Gr F H F1 H1 → Wr F0 H0 (L.set j (l, .lst (xs ++ vs))) F1 (upd H1 l (.lst (xs ++ vs))) k → PrL F1 Ps vs → D.nx σ (upd H1 l (.lst (xs ++ vs)))) : tDrop (tBM K "list" rExtend ta (tCons te tNil)) D σ H :=
  ha F H Gr.refl W.sub _ fun x F2 H2 g e => ⟨by
    obtain rfl : x = _ := e
    exact Or.inl ⟨rfl, _, SqL.of (g.ex _ _ (W.at hj))⟩, h F2 H2 g (W.sub.gr g) _ fun v F3 H3 g3 ⟨b, vs, ev, hb, hp⟩ => by
    obtain rfl : x = _ := e
    have W3 := W.gro (g.trans g3)
    exact ⟨l, b, xs, vs, rfl, by rw [ev], W3.at hj, W3.sub.lst hb, by rw [hp.length]; exact Nat.le_trans hz (by decide), c vs F3 H3 (g.trans g3) (W3.set hj rfl) hp⟩⟩
theorem w_parDI {N : Type} [DecidableEq N] [nn : Nd N] {n : Int} (W : Wr F0 H0 L F H k) {i j : Nat} (c : ∀ p H1, Wr F0 H0 ((p, Nd.dic ([] : List (N × V))) :: L) F H1 k → D.nx ((σ.set i (some (.ref p))).set j (some (.int n))) H1) :
    tPar i j (tCons nn.tnew (tCons (tC (.int n)) tNil)) D σ H :=
  nn.tnew_eq σ H _ fun p hp => ⟨_, _, rfl, c p _ (W.new hp (isDct_notTup (Nd.dct _)))⟩
end
/-! ### edges gone through -/
section
variable {N : Type} [DecidableEq N]
def Prc (g : Gph N) (i j : Nat) (u v : N) : Prop := ∃ i' es j' t, g[i']? = some (u, es) ∧ es[j']? = some (t, v) ∧ (i' < i ∨ (i' = i ∧ j' < j))
theorem adj_at {g : Gph N} {i : Nat} {n : N} {es : List (Tag × N)} (W : Wf g) (h : g[i]? = some (n, es)) : adj g n = es := by
  unfold adj
  rw [luk_at W.nd h]
  rfl
theorem Prc.all {g : Gph N} (W : Wf g) {u v : N} : Prc g g.length 0 u v ↔ Ed g u v := by
  constructor
  · rintro ⟨i, es, j, t, h1, h2, _⟩
    exact ⟨t, by rw [adj_at W h1]; exact List.mem_of_getElem? h2⟩
  · rintro ⟨t, h⟩
    have hk : u ∈ keys g := Ed.key (v := v) ⟨t, h⟩
    obtain ⟨i, hi⟩ := List.getElem?_of_mem hk
    rw [List.getElem?_map] at hi
    cases q : g[i]? with
    | none => rw [q] at hi; cases hi
    | some p =>
      rw [q] at hi
      obtain ⟨m, es⟩ := p
      have e : m = u := Option.some.inj hi
      subst e
      rw [adj_at W q] at h
      obtain ⟨j, hj⟩ := List.getElem?_of_mem h
      exact ⟨i, es, j, t, q, hj, .inl (List.getElem?_eq_some_iff.mp q).1⟩
theorem Prc.succ {g : Gph N} {i j : Nat} {n w : N} {t : Tag} {es : List (Tag × N)} (h : g[i]? = some (n, es)) (h2 : es[j]? = some (t, w)) {u v : N} : Prc g i (j + 1) u v ↔ Prc g i j u v ∨ (u = n ∧ v = w) := by
  constructor
  · rintro ⟨i', es', j', t', a, b, c⟩
    rcases c with c | ⟨rfl, c⟩
    · exact .inl ⟨i', es', j', t', a, b, .inl c⟩
    · rcases Nat.lt_or_ge j' j with z | z
      · exact .inl ⟨i', es', j', t', a, b, .inr ⟨rfl, z⟩⟩
      · have e : j' = j := by omega
        subst e
        rw [h] at a
        cases a
        rw [h2] at b
        cases b
        exact .inr ⟨rfl, rfl⟩
  · rintro (⟨i', es', j', t', a, b, c⟩ | ⟨rfl, rfl⟩)
    · exact ⟨i', es', j', t', a, b, c.imp id fun c => ⟨c.1, by omega⟩⟩
    · exact ⟨i, es, j, t, h, h2, .inr ⟨rfl, by omega⟩⟩
theorem Prc.next {g : Gph N} {i : Nat} {n : N} {es : List (Tag × N)} (h : g[i]? = some (n, es)) {u v : N} : Prc g i es.length u v ↔ Prc g (i + 1) 0 u v := by
  constructor
  · rintro ⟨i', es', j', t', a, b, c⟩
    exact ⟨i', es', j', t', a, b, .inl (by omega)⟩
  · rintro ⟨i', es', j', t', a, b, c⟩
    refine ⟨i', es', j', t', a, b, ?_⟩
    rcases Nat.lt_or_ge i' i with z | z
    · exact .inl z
    · have e : i' = i := by omega
      subst e
      rw [h] at a
      cases a
      exact .inr ⟨rfl, (List.getElem?_eq_some_iff.mp b).1⟩
def sumL {β : Type} (l : List (N × List β)) : Nat := (l.map (·.2.length)).sum
theorem wgt_nil {β : Type} : ∀ l : List (N × List β), wgt ([] : List N) l = 2 * sumL l + 2 * l.length
  | [] => rfl
  | p :: r => by
    unfold wgt
    rw [if_neg (by simp), wgt_nil r]
    unfold sumL
    rw [List.map_cons, List.sum_cons, List.length_cons]
    omega
theorem sumL_take {β : Type} : ∀ {l : List (N × List β)} {i : Nat} {p : N × List β}, l[i]? = some p → sumL (l.take (i + 1)) = sumL (l.take i) + p.2.length
  | [], i, p, h => by simp at h
  | a :: l, 0, p, h => by
    simp at h
    subst h
    simp [sumL]
  | a :: l, i + 1, p, h => by
    have ih := sumL_take (l := l) (i := i) (p := p) (by simpa using h)
    unfold sumL at ih ⊢
    rw [List.take_succ_cons, List.take_succ_cons, List.map_cons, List.map_cons, List.sum_cons, List.sum_cons, ih]
    omega
theorem sumL_set {β : Type} : ∀ {l : List (N × List β)} {i : Nat} {p q : N × List β}, l[i]? = some p → sumL (l.set i q) + p.2.length = sumL l + q.2.length
  | [], i, p, q, h => by simp at h
  | a :: l, 0, p, q, h => by
    simp at h
    subst h
    show ((q :: l).map _).sum + _ = ((a :: l).map _).sum + _
    rw [List.map_cons, List.map_cons, List.sum_cons, List.sum_cons]
    omega
  | a :: l, i + 1, p, q, h => by
    have ih := sumL_set (l := l) (i := i) (p := p) (q := q) (by simpa using h)
    unfold sumL at ih ⊢
    show ((a :: l.set i q).map _).sum + _ = ((a :: l).map _).sum + _
    rw [List.map_cons, List.map_cons, List.sum_cons, List.sum_cons]
    omega
theorem sumL_mem {β : Type} : ∀ {l : List (N × List β)} {p : N × List β}, p ∈ l → p.2.length ≤ sumL l
  | a :: l, p, h => by
    unfold sumL
    rw [List.map_cons, List.sum_cons]
    rcases List.mem_cons.mp h with z | z
    · rw [z]; omega
    · have := sumL_mem z
      unfold sumL at this
      omega
end
/-- strong_parts -/
def spSP (N : Type) [DecidableEq N] [Nd N] : Sp := fun vs H Q _ => ∃ (F : Hp) (g : Gph N) (v : V), vs = [v] ∧ Same F H ∧ pG g F v ∧ Wf g ∧ cap g ≤ 10000 ∧
  Ret F H (isEx (fun part : List (N × Int) => isD (part.map fun p => (p.1, isV (.int p.2)))) (PartOk g)) Q
theorem sc_strong_parts : FnScope ["edges", "node", "backward", "tag", "target", "part", "count", "root", "line"] ["edges"] (defScope sStrongParts) := ⟨rfl, rfl, rfl, by decide +kernel, rfl, by decide +kernel, by decide +kernel⟩
section
variable {P : Program} {w : World} {K : PySem.W.Frag} {mg : Str → Option Value} {base : Heap}
theorem ok_strong_parts (N : Type) [DecidableEq N] [nn : Nd N] (E : Tops K mg) : Cal P w K mg base 2 "strong_parts" ["edges"] (spSP N) := by
  have c_finish_order : Cal P w K mg base 1 "finish_order" ["edges"] (spFO N) := ok_finish_order N E
  refine Cal.of E.f_StrongParts E.g_strong_parts sc_strong_parts (fun _ _ _ _ _ _ us hl => match us, hl with | [_], _ => rfl) (fun vs H Q Ex h => ?_) (fun cdv A outer s H vs Q Ex hr h => ?_)
  · obtain ⟨F, g, v, rfl, _⟩ := h
    rfl
  · obtain ⟨F, g, v, rfl, s0, hg, Wg, sm, k⟩ := h
    refine ⟨_, (pss_cons (ps_lock (ps_setDc (nn := nn) (own := [("node", 1)]) (i := 2) (hu_of hr) rfl sc_strong_parts.nd (pi_keys (pv 0)) (blkOk_by (N := ["edges", "node", "backward", "tag", "target", "part", "count", "root", "line"]) (sc := defScope sStrongParts) (by decide +kernel)) (fun _ _ _ _ _ => (pg_name (i := 1) sc_strong_parts.nd rfl (.inl rfl))) (fun _ _ _ _ _ => pts_nil) (fun _ _ _ _ _ => (pv 1)) (fun _ _ _ _ _ => (pe_lst pa_nil)) rfl rfl (sw_trueD rfl rfl rfl (by decide +kernel))))
      (pss_cons (ps_lock (ps_for PassesOwn.never rfl (pi_keys (pv 0)) (pg_name (i := 1) sc_strong_parts.nd rfl (.inl rfl))
        (pss_one (ps_for PassesOwn.never rfl (pi_list (pe_dget (hu_of hr) (pv 0) (pv 1) (fun _ _ => rfl))) (pg_tup rfl (pgs_cons (pg_name (i := 3) sc_strong_parts.nd rfl (.inl rfl)) (pgs_cons (pg_name (i := 4) sc_strong_parts.nd rfl (.inl rfl)) pgs_nil)))
          (pss_one (ps_expr (pe_bm PySem.F.plainAttrs_list PySem.F.slot_list_append PySem.F.type_list_append mt_append (pe_dget (hu_of hr) (pv 2) (pv 4) (fun _ _ => rfl)) (pa_cons (pv 1) pa_nil))))))))
      (pss_cons (ps_par (i := 5) (j := 6) (by rfl) sc_strong_parts.nd rfl rfl (by decide) rfl rfl (pa_cons nn.pnew (pa_cons pe_int pa_nil)) (by rfl))
      (pss_cons (ps_for PassesOwn.never rfl (pi_list (pe_revL (pe_cal c_finish_order (hr.mono (by decide)) rfl (pa_cons (pv 0) pa_nil)))) (pg_name (i := 7) sc_strong_parts.nd rfl (.inl rfl))
        (pss_cons (ps_set (i := 8) sc_strong_parts.nd rfl (.inl rfl) (pe_lst (pa_cons (pv 7) pa_nil)))
        (pss_cons (ps_while PassesOwn.never (pt_cmpR (op_neNil hr.units0) (pv 8) (pe_lst pa_nil) (nomark _))
          (pss_cons (ps_set (i := 1) sc_strong_parts.nd rfl (.inl rfl) (pe_bm0 PySem.F.plainAttrs_list PySem.F.slot_list_pop PySem.F.type_list_pop mt_pop (pv 8)))
          (pss_one (ps_if (pt_cmp (pc_dnotin (hu_of hr) (pv 1) (pv 5)))
            (pss_cons (ps_dput (hu_of hr) (pv 5) (pv 1) (pv 6) rfl)
            (pss_one (ps_expr (pe_bm PySem.F.plainAttrs_list PySem.F.slot_list_extend PySem.F.type_list_extend mt_extend (pv 8) (pa_cons (pe_dget (hu_of hr) (pv 2) (pv 1) (fun _ _ => rfl)) pa_nil)))))
            pss_nil))))
        (pss_one (ps_aug (i := 6) sc_strong_parts.nd rfl (.inl rfl) (pe_callTy call_int1 (by rfl) E.n_int bt_int (pa_cons (pe_cmpR op_eq (pe_dget (hu_of hr) (pv 5) (pv 7) (fun _ _ => rfl)) (pv 6) (nomark _)) pa_nil)) ip_add)))))
      (pss_one (ps_ret (pv 5))))))), ?_⟩
    obtain ⟨a, l, rfl, hF, hk, hn, hp⟩ := id hg
    have W0 := Wr.start s0
    have hkeys : l.map (·.1) = keys g := by rw [hk, map_fst_pG]
    have hll : l.length = g.length := by have := congrArg List.length hkeys; simpa using this
    have hgl : g.length ≤ cap g := by unfold cap; omega
    have hsum : sumL g ≤ cap g := by have := wgt_nil g; unfold cap; omega
    -- backward = {node: [] for node in edges}
    refine w_seq (w_bwd (i := 2) (j := 0) (jn := 1) W0 rfl (by decide) (by show 1 < 9; decide) hF (by rw [hkeys]; exact Wg.nd) (by omega) fun Db rows F1 H1 s1 W1 hr1 hr2 => ?_)
    rw [hkeys] at hr1
    -- for node in edges: for tag, target in edges[node]: backward[target].append(node)
    refine w_seq (w_forK (l := l) W1 rfl (s1 _ _ hF) fun od W2 => ?_)
    refine ⟨fun i σ' F' H' => ∃ (rows : List (BRow N)) (x1 x3 x4 : Option V), σ' = [some (.ref a), x1, some (.ref Db), x3, x4, none, none, none, none] ∧ Wr F H ((Db, Nd.dic (rows.map rowK)) :: (rows.map rowL ++ [])) F' H' (some (a, od, Nd.dic l)) ∧
      rows.map (·.n) = keys g ∧ (∀ r ∈ rows, PrL F' (r.us.map Nd.nd) r.vs) ∧ (∀ r ∈ rows, ∀ u, u ∈ r.us ↔ Prc g i 0 u r.n) ∧ sumL (bwOf rows) ≤ sumL (g.take i),
      ⟨rows, none, none, none, rfl, W2, hr1, fun r hr => by rw [(hr2 r hr).1, (hr2 r hr).2]; exact .nil, fun r hr u => ?_, ?_⟩, ?_, ?_, ?_⟩
    · rw [(hr2 r hr).1]
      exact ⟨fun z => (by cases z), fun ⟨_, _, _, _, _, _, z⟩ => (by omega)⟩
    · have : ∀ rs : List (BRow N), (∀ r ∈ rs, r.us = [] ∧ r.vs = []) → sumL (bwOf rs) = 0 := by
        intro rs
        induction rs with
        | nil => intro _; rfl
        | cons r rs ih =>
          intro h
          have := ih fun q hq => h q (List.mem_cons_of_mem _ hq)
          unfold sumL bwOf at this ⊢
          rw [List.map_cons, List.map_cons, List.sum_cons, this, (h r List.mem_cons_self).1]
          rfl
      rw [this rows hr2]
      exact Nat.zero_le _
    · rintro i σ' F' H' ⟨rows, x1, x3, x4, rfl, W3, _⟩
      exact (W3.lk _ _ _ rfl).1
    · rintro i n w v σ' F' F2 H' hi sF ⟨rows, x1, x3, x4, rfl, W3, hrk, hrv, hrp, hrs⟩ g2 hnd
      obtain ⟨es, hgi⟩ : ∃ es, g[i]? = some (n, es) := by
        have h1 : (keys g)[i]? = some n := by rw [← hkeys, List.getElem?_map, hi]; rfl
        rw [List.getElem?_map] at h1
        cases q : g[i]? with
        | none => rw [q] at h1; cases h1
        | some p =>
          rw [q] at h1
          obtain ⟨m, es⟩ := p
          have e : m = n := Option.some.inj h1
          rw [e]
          exact ⟨es, rfl⟩
      have hnk : n ∈ keys g := List.mem_map.mpr ⟨_, List.mem_of_getElem? hgi, rfl⟩
      have hae : adj g n = es := adj_at Wg hgi
      have W4 := W3.gro g2
      have s2 : Same F F2 := (s1.trans sF).trans g2.fx
      have hgF : pG g F2 (.ref a) := (inferInstance : Mn (pG g)).mn s2 hg
      have hev := ev_adj (σ := [some (.ref a), some v, some (.ref Db), x3, x4, none, none, none, none]) (H := H') (ta := tVar 0) (ty := tVar 1) (ev_var rfl inferInstance hgF) (ev_var rfl inferInstance hnd) hnk
      rw [hae] at hev
      have htake := sumL_take hgi
      have htot : ∀ j, j ≤ es.length → sumL (g.take i) + j ≤ sumL g := by
        intro j hj
        have e : sumL (g.take (i + 1)) ≤ sumL g := by
          have : g = g.take (i + 1) ++ g.drop (i + 1) := (List.take_append_drop ..).symm
          unfold sumL
          conv => rhs; rw [this]
          rw [List.map_append, List.sum_append]
          omega
        have : (n, es).2.length = es.length := rfl
        omega
      refine w_forLm (f := pE) (xs := es) W4 hev (fun _ => inferInstance) fun F5 H5 g5 W5 => ?_
      refine ⟨fun j σ'' F'' H'' => ∃ (rows : List (BRow N)) (x3 x4 : Option V), σ'' = [some (.ref a), some v, some (.ref Db), x3, x4, none, none, none, none] ∧ Wr F H ((Db, Nd.dic (rows.map rowK)) :: (rows.map rowL ++ [])) F'' H'' (some (a, od, Nd.dic l)) ∧
        rows.map (·.n) = keys g ∧ (∀ r ∈ rows, PrL F'' (r.us.map Nd.nd) r.vs) ∧ (∀ r ∈ rows, ∀ u, u ∈ r.us ↔ Prc g i j u r.n) ∧ sumL (bwOf rows) ≤ sumL (g.take i) + j,
        ⟨rows, x3, x4, rfl, W5, hrk, fun r hr => (mnl_map (fun _ => inferInstance) _).mn (g2.trans g5).fx (hrv r hr), hrp, hrs⟩, ?_, ?_⟩
      · rintro j ⟨tg, tn⟩ ve σ'' F'' H'' hj hve sF5 ⟨rows, x3, x4, rfl, W6, hrk, hrv, hrp, hrs⟩
        refine tg_tup2 W6.sub hve fun vt vn hvt hvn => ?_
        have hvn : Nd.nd tn F'' vn := hvn
        have hvv : Nd.nd n F'' v := (inferInstance : Mn (Nd.nd n)).mn (g5.fx.trans sF5) hnd
        have tk : tn ∈ keys g := Wg.cl n tn ⟨tg, by rw [hae]; exact List.mem_of_getElem? hj⟩
        rw [← hrk] at tk
        obtain ⟨q, hq⟩ := List.getElem?_of_mem tk
        rw [List.getElem?_map] at hq
        cases hrq : rows[q]? with
        | none => rw [hrq] at hq; cases hq
        | some r =>
          rw [hrq] at hq
          have hrn : r.n = tn := Option.some.inj hq
          have hrm := List.mem_of_getElem? hrq
          have hjl := (List.getElem?_eq_some_iff.mp hj).1
          have hsz : r.vs.length < 100000 := by
            have e1 : r.vs.length = r.us.length := by have := (hrv r hrm).length; simpa using this
            have e2 : (r.n, r.us).2.length ≤ sumL (bwOf rows) := sumL_mem (List.mem_map.mpr ⟨r, hrm, rfl⟩)
            have e3 := htot j (by omega)
            have : (r.n, r.us).2.length = r.us.length := rfl
            omega
          have hLq : ((Db, Nd.dic (rows.map rowK)) :: (rows.map rowL ++ []))[q + 1]? = some (r.a, .lst r.vs) := by
            rw [List.getElem?_cons_succ, List.append_nil, List.getElem?_map, hrq]; rfl
          have hluk : luk (rows.map rowK) tn = some (.ref r.a) := by
            refine luk_at (i := q) ?_ (by rw [List.getElem?_map, hrq, ← hrn]; rfl)
            have : (rows.map rowK).map (·.1) = keys g := by rw [← hrk, List.map_map]; rfl
            rw [this]; exact Wg.nd
          refine w_app W6 (j := q + 1) hLq (ev_dgetO (W6.at (j := 0) rfl) (ev_varV rfl) (ev_var rfl inferInstance hvn) hluk) (ev_var rfl inferInstance hvv) hsz fun vx F7 H7 g7 W7 hvx => ?_
          have erow : ((Db, Nd.dic (rows.map rowK)) :: (rows.map rowL ++ [])).set (q + 1) (r.a, .lst (r.vs ++ [vx])) = (Db, Nd.dic ((rows.set q ⟨r.n, r.a, r.us ++ [n], r.vs ++ [vx]⟩).map rowK)) :: ((rows.set q ⟨r.n, r.a, r.us ++ [n], r.vs ++ [vx]⟩).map rowL ++ []) := by
            have e1 : (rows.set q ⟨r.n, r.a, r.us ++ [n], r.vs ++ [vx]⟩).map rowK = rows.map rowK := by
              rw [List.map_set]
              refine List.ext_getElem? fun z => ?_
              rw [List.getElem?_set]
              split
              · rename_i ez
                subst ez
                rw [List.getElem?_map, hrq]
                split
                · rfl
                · rename_i h2
                  have := (List.getElem?_eq_some_iff.mp hrq).1
                  simp at h2; omega
              · rfl
            rw [e1, List.append_nil, List.append_nil, List.map_set, List.set_cons_succ]
            rfl
          rw [erow] at W7
          have getr : ∀ r' ∈ rows.set q ⟨r.n, r.a, r.us ++ [n], r.vs ++ [vx]⟩, r' = ⟨r.n, r.a, r.us ++ [n], r.vs ++ [vx]⟩ ∨ (r' ∈ rows ∧ r'.n ≠ tn) := by
            intro r' hr'
            obtain ⟨z, hz⟩ := List.getElem?_of_mem hr'
            rw [List.getElem?_set] at hz
            split at hz
            · split at hz
              · cases hz; exact .inl rfl
              · cases hz
            · rename_i ne
              refine .inr ⟨List.mem_of_getElem? hz, fun e => ne ?_⟩
              have nd : (rows.map (·.n)).Nodup := by rw [hrk]; exact Wg.nd
              exact nd_ix nd (x := tn) (by rw [List.getElem?_map, hrq, ← hrn]; rfl) (by rw [List.getElem?_map, hz, ← e]; rfl)
          refine ⟨F7, sF5.trans g7.fx, W7.sub, _, _, _, rfl, W7, ?_, fun r' hr' => ?_, fun r' hr' u => ?_, ?_⟩
          · rw [← hrk, List.map_set]
            refine List.ext_getElem? fun z => ?_
            rw [List.getElem?_set]
            split
            · rename_i ez
              subst ez
              rw [List.getElem?_map, hrq]
              split
              · rfl
              · rename_i h2
                have := (List.getElem?_eq_some_iff.mp hrq).1
                simp at h2; omega
            · rfl
          · rcases getr r' hr' with e | ⟨hm, _⟩
            · subst e
              rw [List.map_append]
              exact ((mnl_map (fun _ => inferInstance) _).mn g7.fx (hrv r hrm)).append (.one hvx)
            · exact (mnl_map (fun _ => inferInstance) _).mn g7.fx (hrv r' hm)
          · rw [Prc.succ hgi hj]
            rcases getr r' hr' with e | ⟨hm, ne⟩
            · subst e
              rw [List.mem_append, List.mem_singleton, hrp r hrm u]
              exact ⟨fun z => z.imp id fun e => ⟨e, hrn⟩, fun z => z.imp id fun e => e.1⟩
            · rw [hrp r' hm u]
              exact ⟨.inl, fun z => z.elim id fun e => absurd e.2 ne⟩
          · have := sumL_set (l := bwOf rows) (i := q) (p := (r.n, r.us)) (q := (r.n, r.us ++ [n])) (by unfold bwOf; rw [List.getElem?_map, hrq]; rfl)
            have e : bwOf (rows.set q ⟨r.n, r.a, r.us ++ [n], r.vs ++ [vx]⟩) = (bwOf rows).set q (r.n, r.us ++ [n]) := by unfold bwOf; rw [List.map_set]
            rw [e]
            simp only [List.length_append, List.length_singleton] at this
            omega
      · rintro σ'' F'' H'' sF5 ⟨rows, x3, x4, rfl, W6, hrk, hrv, hrp, hrs⟩
        refine ⟨F'', (sF.trans g2.fx).trans (g5.fx.trans sF5), W6.sub, rows, _, _, _, rfl, W6, hrk, hrv, fun r hr u => (hrp r hr u).trans (Prc.next hgi), ?_⟩
        rw [htake]
        exact hrs
    · rintro σ' F' H' sF ⟨rows, x1, x3, x4, rfl, W3, hrk, hrv, hrp, hrs⟩
      have W4 : Wr F H (((Db, Nd.dic (rows.map rowK)) :: rows.map rowL) ++ []) F' (upd H' a (Nd.dic l)) none := W3.unlockF
      have nfz : ∀ p ∈ (Db, Nd.dic (rows.map rowK)) :: rows.map rowL, ∀ od u, p.2 ≠ .frz od u := by
        intro p hp od u e
        rcases List.mem_cons.mp hp with z | z
        · rw [z] at e
          have := nn.dct (rows.map rowK)
          rw [show Nd.dic (rows.map rowK) = .frz od u from e] at this
          cases this
        · obtain ⟨r, _, rfl⟩ := List.mem_map.mp z
          cases e
      obtain ⟨F5, s5, W5, hfz⟩ := W4.frzAll nfz
      have hsF : Same F F5 := (s1.trans sF).trans s5
      let bw := bwOf rows
      have hbk : bw.map (·.1) = keys g := by rw [← hrk]; show (rows.map _).map _ = _; rw [List.map_map]; rfl
      have hbd : isD (bw.map fun p => (p.1, isLst (p.2.map Nd.nd))) F5 (.ref Db) := by
        refine ⟨Db, rows.map rowK, rfl, hfz _ List.mem_cons_self, ?_, ?_, ?_⟩
        · show (rows.map rowK).map (·.1) = ((rows.map _).map _).map _
          rw [List.map_map, List.map_map, List.map_map]; rfl
        · have : (bw.map fun p => (p.1, isLst (p.2.map Nd.nd))).map (·.1) = keys g := by rw [← hbk, List.map_map]; rfl
          rw [this]; exact Wg.nd
        · have : ∀ rs : List (BRow N), (∀ r ∈ rs, PrL F' (r.us.map Nd.nd) r.vs ∧ F5 r.a = some (.lst r.vs)) → PrL F5 (((bwOf rs).map fun p => (p.1, isLst (p.2.map Nd.nd))).map (·.2)) ((rs.map rowK).map (·.2)) := by
            intro rs
            induction rs with
            | nil => intro _; exact .nil
            | cons r rs ih =>
              intro h
              obtain ⟨h1, h2⟩ := h r List.mem_cons_self
              exact .cons ⟨r.a, r.vs, rfl, h2, (mnl_map (fun _ => inferInstance) _).mn s5 h1⟩ (ih fun q hq => h q (List.mem_cons_of_mem _ hq))
          exact this rows fun r hr => ⟨hrv r hr, hfz _ (List.mem_cons_of_mem _ (List.mem_map.mpr ⟨r, hr, rfl⟩))⟩
      have hbp : ∀ v us, luk bw v = some us → ∀ u, u ∈ us ↔ Ed g u v := fun v us h u => by
        obtain ⟨r, hr, e⟩ := List.mem_map.mp (luk_mem h)
        cases e
        rw [hll] at hrp
        exact (hrp r hr u).trans (Prc.all Wg)
      have hbs : sumL bw ≤ cap g := by
        rw [hll, List.take_length] at hrs
        exact Nat.le_trans hrs hsum
      have hbw : wgt ([] : List N) bw ≤ 2 * cap g + 2 * cap g := by
        rw [wgt_nil]
        have : bw.length = g.length := by have := congrArg List.length hbk; simpa using this
        omega
      have mb : Mn (isD (bw.map fun p => (p.1, isLst (p.2.map Nd.nd)))) := by
        have : MnL ((bw.map fun p => (p.1, isLst (p.2.map Nd.nd))).map (·.2)) := by
          rw [List.map_map]
          exact (mnl_map (fun _ => inferInstance) bw : MnL (bw.map fun p => isLst (p.2.map Nd.nd)))
        infer_instance
      -- part, count = {}, 0
      refine w_seq (w_parDI W5 fun pD H6 W6 => ?_)
      -- for root in finish_order(edges)[::-1]
      have hgF : pG g F5 (.ref a) := (inferInstance : Mn (pG g)).mn hsF hg
      refine w_seq (w_forEx (Pa := fun o : List N => isLst (o.map Nd.nd).reverse) (C := FinOk g) W6 (ev_revX (l := fun o : List N => o.map Nd.nd) (fun o => mnl_map (fun _ => inferInstance) o) (ev_call (R := isEx (fun o : List N => isLst (o.map Nd.nd)) (FinOk g)) W6.same (ea_cons (ev_var rfl inferInstance hgF) inferInstance ea_nil)
        fun F7 H7 vs Q7 g7 s7 hv7 r7 => by
          cases hv7 with
          | cons hv hv7 =>
            cases hv7
            exact ⟨F7, g, _, rfl, s7, hv, Wg, sm, r7⟩)) fun order v7 F7 H7 hfin g7 W7 hord => ?_)
      rw [← List.map_reverse] at hord
      refine w_forLm (f := Nd.nd) (xs := order.reverse) W7 (ev_lit inferInstance hord) (fun _ => inferInstance) fun F8 H8 g8 W8 => ?_
      refine ⟨fun i σ' F' H' => ∃ (part : List (N × Int)) (c : Nat) (y1 y7 y8 : Option V), σ' = [some (.ref a), y1, some (.ref Db), x3, x4, some (.ref pD), some (.int (c : Int)), y7, y8] ∧ Wr F H [(pD, Nd.dic (part.map fun p => (p.1, V.int p.2)))] F' H' none ∧
        Ptn g part c ∧ ∀ x ∈ order.reverse.take i, x ∈ part.map (·.1), ⟨[], 0, x1, none, none, rfl, W8, Ptn.start g, fun x hx => by cases hx⟩, ?_, ?_⟩
      · rintro i r vr σ' F' H' hi hvr sF8 ⟨part, c, y1, y7, y8, rfl, W9, hP, hdone⟩
        have hbd9 := mb.mn ((g7.fx.trans g8.fx).trans sF8) hbd
        -- order = A ++ r :: B
        have hAB : order = (order.reverse.drop (i + 1)).reverse ++ r :: (order.reverse.take i).reverse := by
          have e1 : order.reverse = order.reverse.take i ++ r :: order.reverse.drop (i + 1) := by
            obtain ⟨h1, h2⟩ := List.getElem?_eq_some_iff.mp hi
            rw [← h2, List.getElem_cons_drop, List.take_append_drop]
          have e2 := congrArg List.reverse e1
          rw [List.reverse_reverse, List.reverse_append, List.reverse_cons, List.append_assoc] at e2
          exact e2
        have hB : ∀ x ∈ (order.reverse.take i).reverse, x ∈ part.map (·.1) := fun x hx => hdone x (List.mem_reverse.mp hx)
        have hrk' : r ∈ keys g := (hfin.all r).mp (List.mem_reverse.mp (List.mem_of_getElem? hi))
        -- line = [root]
        refine w_seq (w_newLs W9 (ea_cons (ev_var rfl inferInstance hvr) inferInstance ea_nil) (by simp) fun ln vln F10 H10 H11 g10 W10 hln => ?_)
        -- while line != []
        refine w_seq (w_while (fun m σ'' F'' H'' => ∃ (part2 : List (N × Int)) (line : List N) (vl : List V) (y1 : Option V), σ'' = [some (.ref a), y1, some (.ref Db), x3, x4, some (.ref pD), some (.int (c : Int)), some vr, some (.ref ln)] ∧
          m = wgt (part2.map (·.1)) bw + line.length ∧ wgt (part2.map (·.1)) bw + line.length ≤ 4 * cap g + 1 ∧ Same F' F'' ∧ Wr F H [(ln, .lst vl), (pD, Nd.dic (part2.map fun p => (p.1, V.int p.2)))] F'' H'' none ∧ PrL F'' (line.map Nd.nd) vl ∧ Fld g part c r part2 line ∧ (r ∈ part.map (·.1) → part2 = part ∧ ∀ y ∈ line, y = r))
          W10.sub _ ⟨part, [r], vln, y1, rfl, rfl, ?_, g10.fx, W10, hln, Fld.start hP hrk', fun _ => ⟨rfl, fun y hy => List.mem_singleton.mp hy⟩⟩ ?_)
        · have : ∀ (more : List N), wgt more bw ≤ wgt [] bw := fun more => by
            have := wgt_le ([] : List N) more bw
            simpa using this
          have := this (part.map (·.1))
          show _ + 1 ≤ _
          omega
        · rintro m σ'' F'' H'' sb ⟨part2, line, vl, y1', rfl, rfl, hm, sF', W11, hl11, hD, hold⟩
          have hvr11 : Nd.nd r F'' vr := (inferInstance : Mn (Nd.nd r)).mn sF' hvr
          refine ⟨_, et_neNil rfl (W11.at (j := 0) rfl), fun hb F12 H12 g12 => ?_, fun hb F12 H12 g12 => ?_⟩
          · have W12 := W11.gro g12
            rcases List.eq_nil_or_concat line with z | ⟨line', n, z⟩
            · subst z; cases hl11; cases hb
            · rw [List.concat_eq_append] at z
              subst z
              rw [List.map_append] at hl11
              obtain ⟨wl, vn, rfl, hwl, hvn⟩ := PrL.snoc hl11
              -- node = line.pop()
              refine w_seq (w_popC W12 (j := 0) rfl rfl fun W13 => ?_)
              have hvn12 : Nd.nd n F12 vn := (inferInstance : Mn (Nd.nd n)).mn g12.fx hvn
              have hwl12 := (mnl_map (fun _ => inferInstance) _ : MnL (line'.map Nd.nd)).mn g12.fx hwl
              have hnk : n ∈ keys g := (hD.lin n (by simp)).1
              rw [List.length_append, List.length_singleton] at hm
              -- if node not in part
              refine w_if W13 (et_B (ev_dninO (W13.at (j := 1) rfl) (ev_var rfl inferInstance hvn12) (ev_varV rfl))) (fun hb F14 H14 g14 W14 => ?_) (fun hb F14 H14 g14 W14 => ?_)
              · have hnot : n ∉ part2.map (·.1) := by
                  rw [luk_map V.int] at hb
                  intro z
                  obtain ⟨x, hx⟩ := luk_some z
                  rw [hx] at hb
                  cases hb
                have hlp : part2.length ≤ cap g := by
                  have := nd_len hD.nd hD.sub
                  simp at this
                  omega
                have hnd2 : ((part2.map fun p => (p.1, V.int p.2)).map (·.1)).Nodup := by
                  have : (part2.map fun p => (p.1, V.int p.2)).map (·.1) = part2.map (·.1) := by rw [List.map_map]; rfl
                  rw [this]; exact hD.nd
                -- part[node] = count
                refine w_seq (w_dput W14 (j := 1) (n := n) rfl hnd2 (by rw [List.length_map]; omega) (ev_varV rfl) (ev_var rfl inferInstance ((inferInstance : Mn (Nd.nd n)).gr g14 hvn12)) (ev_varV rfl) inferInstance fun vc F15 H15 g15 W15 hvc => ?_)
                obtain rfl : vc = .int (c : Int) := hvc
                have eput : putA (part2.map fun p => (p.1, V.int p.2)) n (V.int (c : Int)) = (part2 ++ [(n, (c : Int))]).map fun p => (p.1, V.int p.2) := by
                  rw [← put_map V.int part2 n (c : Int), put_new _ (luk_none.mpr hnot)]
                rw [eput] at W15 ⊢
                obtain ⟨us, hus⟩ : ∃ us, luk bw n = some us := luk_some (by rw [hbk]; exact hnk)
                have hbd15 := mb.mn (((sF'.trans g12.fx).trans g14.fx).trans g15.fx) hbd9
                have hvn15 : Nd.nd n F15 vn := (inferInstance : Mn (Nd.nd n)).mn (g14.fx.trans g15.fx) hvn12
                have hwl15 := (mnl_map (fun _ => inferInstance) _ : MnL (line'.map Nd.nd)).mn (g14.fx.trans g15.fx) hwl12
                -- line.extend(backward[node])
                have hext : EvP (tDGet (tVar 2) (tVar 1)) [some (.ref a), some vn, some (.ref Db), x3, x4, some (.ref pD), some (.int (c : Int)), some vr, some (.ref ln)] F15 (upd H15 pD (Nd.dic ((part2 ++ [(n, (c : Int))]).map fun p => (p.1, V.int p.2)))) (isLst (us.map Nd.nd)) :=
                  ev_dget (kps := bw.map fun p => (p.1, isLst (p.2.map Nd.nd))) (ev_var rfl mb hbd15) mb (ev_var rfl inferInstance hvn15) ((luk_map (fun us : List N => isLst (us.map Nd.nd)) bw n).trans (by rw [hus]; rfl))
                have hwg := wgt_new (seen := part2.map (·.1)) hnot (r := bw) (by rw [hbk]; exact Wg.nd) (by rw [hbk]; exact hnk)
                rw [hus] at hwg
                have hwg : wgt (part2.map (·.1) ++ [n]) bw + (2 * us.length + 2) = wgt (part2.map (·.1)) bw := hwg
                have hpk : (part2 ++ [(n, (c : Int))]).map (·.1) = part2.map (·.1) ++ [n] := by rw [List.map_append]; rfl
                have hwll : wl.length = line'.length := by have := hwl.length; simpa using this
                refine w_ext W15 (j := 0) rfl (ev_varV rfl) hext (by rw [hwll, List.length_map]; omega) fun vs16 F16 H16 g16 W16 hvs16 => ?_
                refine ⟨_, F16, ?_, W16.sub, part2 ++ [(n, (c : Int))], line' ++ us, wl ++ vs16, _, rfl, rfl, ?_, (((sF'.trans g12.fx).trans g14.fx).trans g15.fx).trans g16.fx, W16, ?_, hD.take hnot (hbp n us hus), ?_⟩
                · rw [hpk, List.length_append, List.length_append, List.length_singleton]; omega
                · rw [hpk, List.length_append]; omega
                · rw [List.map_append]
                  exact ((mnl_map (fun _ => inferInstance) _).mn g16.fx hwl15).append hvs16
                · intro hr'
                  obtain ⟨h1, h2⟩ := hold hr'
                  rw [← h1, ← h2 n (by simp)] at hr'
                  exact absurd hr' hnot
              · have hin : n ∈ part2.map (·.1) := by
                  rw [luk_map V.int] at hb
                  cases hx : luk part2 n with
                  | none => rw [hx] at hb; cases hb
                  | some x => exact luk_key hx
                refine ⟨_, F14, ?_, W14.sub, part2, line', wl, _, rfl, rfl, by omega, (sF'.trans g12.fx).trans g14.fx, W14, (mnl_map (fun _ => inferInstance) _).mn g14.fx hwl12, hD.skip hin, fun z => ⟨(hold z).1, fun y hy => (hold z).2 y (List.mem_append_left _ hy)⟩⟩
                rw [List.length_append, List.length_singleton]
                omega
          · -- count += int(part[root] == count)
            cases line with
            | cons y ys =>
              have := hl11.length
              cases vl with
              | nil => simp at this
              | cons y ys => cases hb
            | nil =>
              have W12 := (W11.gro g12).drop 0
              have hvr12 : Nd.nd r F12 vr := (inferInstance : Mn (Nd.nd r)).mn g12.fx hvr11
              -- what the part is now
              obtain ⟨c2, hP2, b, hlb, hc2⟩ : ∃ c2, Ptn g part2 c2 ∧ ∃ b : Int, luk part2 r = some b ∧ (c2 : Int) = c + (if (decide (V.int b = V.int (c : Int))) then 1 else 0) := by
                by_cases hr' : r ∈ part.map (·.1)
                · obtain ⟨h1, _⟩ := hold hr'
                  rw [h1]
                  obtain ⟨b, hb⟩ := luk_some hr'
                  have := hP.rng r b hb
                  refine ⟨c, hP, b, hb, ?_⟩
                  rw [decide_eq_false (fun z => by injection z with z; omega)]
                  simp
                · obtain ⟨h1, h2⟩ := hD.end_ Wg hfin hAB hB hP hr'
                  refine ⟨c + 1, h1, c, h2, ?_⟩
                  rw [decide_eq_true rfl]
                  simp
              refine w_aug W12 (a := (c : Int)) (b := if (decide (V.int b = V.int (c : Int))) then 1 else 0) rfl (ev_cb (ea_cons (ev_op (ev_dgetO (W12.at (j := 0) rfl) (ev_varV rfl) (ev_var rfl inferInstance hvr12) (v := .int b) ((luk_map V.int part2 r).trans (by rw [hlb]; rfl))) (ev_varV rfl) inferInstance (op_Eq rfl)) inferInstance ea_nil) ca_int1) fun F13 H13 g13 W13 => ?_
              rw [← hc2]
              refine ⟨F13, ((sF8.trans sF').trans g12.fx).trans g13.fx, W13.sub, part2, c2, _, _, _, rfl, W13, hP2, fun x hx => ?_⟩
              rw [List.take_succ, hi] at hx
              rcases List.mem_append.mp hx with z | z
              · obtain ⟨b', hb'⟩ := luk_some (hdone x z)
                exact luk_key (hD.old x b' hb')
              · simp at z
                rw [z]
                exact luk_key hlb
      · rintro σ' F' H' sF8 ⟨part, c, y1, y7, y8, rfl, W9, hP, hdone⟩
        have hok : PartOk g part := hP.end_ fun n hn => hdone n (by
          rw [List.take_of_length_le (by simp)]
          exact List.mem_reverse.mpr ((hfin.all n).mpr hn))
        obtain ⟨W10, s10⟩ := W9.frz (j := 0) rfl (fun od u z => by
          have := nn.dct (part.map fun p => (p.1, V.int p.2))
          rw [z] at this
          cases this)
        refine w_ret W10 (ev_varV rfl) fun v F11 H11 g11 W11 e => ?_
        obtain rfl : v = _ := e
        refine k _ F11 H11 W11.gr ⟨part, hok, pD, _, rfl, g11.fx _ _ upd_same, ?_, ?_, ?_⟩
        · rw [List.map_map, List.map_map]; rfl
        · have : (part.map fun p => (p.1, isV (.int p.2))).map (·.1) = part.map (·.1) := by rw [List.map_map]; rfl
          rw [this]; exact hok.nd
        · have := PrL.of_isV (F := F11) (part.map fun p => V.int p.2)
          rw [List.map_map] at this
          rw [List.map_map, List.map_map]
          exact this
end
end EL

set_option Elab.async false
set_option linter.all false
set_option maxRecDepth 100000
set_option maxHeartbeats 1000000
/-! what loops and comprehensions walk, by data -/
namespace EL
open PySem PySem.Spec PyProof.Rows L2

def Hold (F : Hp) (k : Lk) (F' H' : Hp) : Prop := Same F F' ∧ Sub F' H' ∧ ∀ d od u, k = some (d, od, u) → H' d = some (.frz od u)
structure Src {α : Type} (J : It) (F : Hp) (k : Lk) (xs : List α) (Y : Nat → α → Pr) : Prop where
  go : ∀ i F' H', Hold F k F' H' → i < xs.length → J.go i H'
  stop : ∀ i F' H', Hold F k F' H' → xs.length ≤ i → J.stop i H'
  yld : ∀ i F' H' v H'', Hold F k F' H' → J.yld i H' v H'' → i < xs.length → ∃ x F'', xs[i]? = some x ∧ Gr F' H' F'' H'' ∧ Y i x F'' v
def EvI {α : Type} (wi : TI) (σ : L2.St) (F H : Hp) (k : Lk) (xs : List α) (Y : Nat → α → Pr) : Prop := ∀ F1 H1, Gr F H F1 H1 → Sub F1 H1 → ∀ R : It → Hp → Prop, (∀ J F2 H2, Gr F1 H1 F2 H2 → Src J F2 k xs Y → R J H2) → wi σ H1 R
section
variable {K : PySem.W.Frag} {α : Type} {σ : L2.St} {F H F' H' : Hp} {k : Lk} {te tl : TE} {xs : List α} {f : α → Pr} {Y : Nat → α → Pr}
theorem EvI.mono {wi : TI} (h : EvI wi σ F H k xs Y) (g : Gr F H F' H') : EvI wi σ F' H' k xs Y := fun F1 H1 g1 s R q => h F1 H1 (g.trans g1) s R q
theorem ei_list (h : EvP tl σ F H (isLst (xs.map f))) (m : ∀ x, Mn (f x)) : EvI (iList K tl) σ F H k xs (fun _ => f) := fun F1 H1 g s R q =>
  h F1 H1 g s _ fun v F2 H2 g2 ⟨a, vs, e, hF, hp⟩ => by
    have s2 := s.gr g2
    refine ⟨a, e, ⟨vs, SqL.of (s2.lst hF)⟩, q _ F2 H2 g2 ⟨fun i F' H' hh hi => ?_, fun i F' H' hh hi => ?_, fun i F' H' v H'' hh hy hi => ?_⟩⟩
    · have hl : SqL K H' a vs := SqL.of (hh.2.1.lst (hh.1 _ _ hF))
      have e3 := hp.length
      rw [List.length_map] at e3
      exact ⟨vs, vs[i]'(by omega), hl, by simp⟩
    · have hl : SqL K H' a vs := SqL.of (hh.2.1.lst (hh.1 _ _ hF))
      exact ⟨vs, hl, by have := hp.length; rw [List.length_map] at this; omega⟩
    · have hl : SqL K H' a vs := SqL.of (hh.2.1.lst (hh.1 _ _ hF))
      obtain ⟨rfl, hx⟩ := hy
      have hv : vs[i]? = some v := hx vs hl
      obtain ⟨x, h1, h2⟩ := hp.mapV hv
      exact ⟨x, F', h1, Gr.refl, (m x).mn hh.1 h2⟩
theorem ei_tup (h : EvP tl σ F H (isTup (xs.map f))) (m : ∀ x, Mn (f x)) : EvI (iTup K tl) σ F H k xs (fun _ => f) := fun F1 H1 g s R q =>
  h F1 H1 g s _ fun v F2 H2 g2 ⟨a, vs, e, hF, hp⟩ => by
    have s2 := s.gr g2
    refine ⟨a, e, ⟨vs, SqT.of (s2.tup hF)⟩, q _ F2 H2 g2 ⟨fun i F' H' hh hi => ?_, fun i F' H' hh hi => ?_, fun i F' H' v H'' hh hy hi => ?_⟩⟩
    · have hl : SqT K H' a vs := SqT.of (hh.2.1.tup (hh.1 _ _ hF))
      have e3 := hp.length
      rw [List.length_map] at e3
      exact ⟨vs, vs[i]'(by omega), hl, by simp⟩
    · have hl : SqT K H' a vs := SqT.of (hh.2.1.tup (hh.1 _ _ hF))
      exact ⟨vs, hl, by have := hp.length; rw [List.length_map] at this; omega⟩
    · have hl : SqT K H' a vs := SqT.of (hh.2.1.tup (hh.1 _ _ hF))
      obtain ⟨rfl, hx⟩ := hy
      have hv : vs[i]? = some v := hx vs hl
      obtain ⟨x, h1, h2⟩ := hp.mapV hv
      exact ⟨x, F', h1, Gr.refl, (m x).mn hh.1 h2⟩
theorem ei_rng1 {ta : TA} {n : Nat} (h : EvA ta σ F H [isV (.int n)]) (hn : n ≤ 100000) : EvI (iRng1 ta) σ F H k (List.range n) (fun _ i => isV (.int (i : Nat))) := fun F1 H1 g s R q =>
  h F1 H1 g s _ fun vs F2 H2 g2 hp => by
    have e : vs = [.int (n : Int)] := PrL.isVs (ws := [.int (n : Int)]) hp
    refine ⟨n, e, by omega, by omega, q _ F2 H2 g2 ⟨fun i F' H' hh hi => ?_, fun i F' H' hh hi => ?_, fun i F' H' v H'' hh hy hi => ?_⟩⟩
    · rw [List.length_range] at hi; exact hi
    · rw [List.length_range] at hi; exact hi
    · obtain ⟨rfl, rfl⟩ := hy
      rw [List.length_range] at hi
      refine ⟨i, F', ?_, Gr.refl, ?_⟩
      · rw [List.getElem?_range hi]
      · show V.int (0 + (i : Int)) = V.int (i : Int)
        rw [Int.zero_add]
theorem ei_str {x : Str} (h : EvP te σ F H (isV (.str x))) : EvI (iStr te) σ F H k x.cps.toList (fun _ c => isV (.str ⟨#[c]⟩)) := fun F1 H1 g s R q =>
  h F1 H1 g s _ fun v F2 H2 g2 hp => by
    refine ⟨x, hp, q _ F2 H2 g2 ⟨fun i F' H' hh hi => ?_, fun i F' H' hh hi => ?_, fun i F' H' v H'' hh hy hi => ?_⟩⟩
    · rw [Array.length_toList] at hi; exact hi
    · rw [Array.length_toList] at hi; exact hi
    · obtain ⟨rfl, c, h1, rfl⟩ := hy
      exact ⟨c, F', by simpa using h1, Gr.refl, rfl⟩
theorem ei_keys {N : Type} [DecidableEq N] [nn : Nd N] {d : Addr} {od : Obj} {l : List (N × V)} {j : Nat} (hv : σ[j]? = some (some (.ref d))) (hH : H d = some (.frz od (Nd.dic l))) :
    EvI (iKeys (tVar j)) σ F H (some (d, od, Nd.dic l)) (l.map (·.1)) (fun _ n => Nd.nd n) := fun F1 H1 g s R q => by
  refine nn.keys hv (g.ex _ _ hH) fun J go stop yld => q J F1 H1 Gr.refl ⟨fun i F' H' hh hi => ?_, fun i F' H' hh hi => ?_, fun i F' H' v H'' hh hy hi => ?_⟩
  · exact go i H' (hh.2.2 _ _ _ rfl) (by simpa using hi)
  · exact stop i H' (hh.2.2 _ _ _ rfl) (by simpa using hi)
  · obtain ⟨e, n, w, h1, h2⟩ := yld i H' v H'' hy
    subst e
    obtain ⟨F2, g2, h3⟩ := h2 F' hh.2.1
    exact ⟨n, F2, by rw [List.getElem?_map, h1]; rfl, g2, h3⟩
def pIx (f : α → Pr) (i : Nat) (x : α) : Pr := isTup [isV (.int (i : Nat)), f x]
theorem ei_enum {ta : TA} (h : EvA ta σ F H [isLst (xs.map f)]) (m : ∀ x, Mn (f x)) : EvI (iEnum K ta) σ F H k xs (pIx f) := fun F1 H1 g s R q =>
  h F1 H1 g s _ fun vs F2 H2 g2 hp => by
    cases hp with
    | cons hp hn =>
      cases hn
      obtain ⟨a, vs, rfl, hF, hp⟩ := hp
      have s2 := s.gr g2
      refine ⟨a, vs, rfl, SqL.of (s2.lst hF), q _ F2 H2 g2 ⟨fun i F' H' hh hi => ?_, fun i F' H' hh hi => ?_, fun i F' H' v H'' hh hy hi => ?_⟩⟩
      · have hl : SqL K H' a vs := SqL.of (hh.2.1.lst (hh.1 _ _ hF))
        have e3 := hp.length
        rw [List.length_map] at e3
        exact ⟨vs, vs[i]'(by omega), hl, by simp⟩
      · have hl : SqL K H' a vs := SqL.of (hh.2.1.lst (hh.1 _ _ hF))
        exact ⟨vs, hl, by have := hp.length; rw [List.length_map] at this; omega⟩
      · have hl : SqL K H' a vs := SqL.of (hh.2.1.lst (hh.1 _ _ hF))
        obtain ⟨T, w, rfl, hT, rfl, hx⟩ := hy
        have hv : vs[i]? = some w := hx vs hl
        obtain ⟨x, h1, h2⟩ := hp.mapV hv
        have fT := hh.2.1.free hT
        refine ⟨x, _, h1, Gr.newF hT fT, T, _, rfl, upd_same, .cons rfl (.cons ?_ .nil)⟩
        exact (m x).mn (hh.1.trans (same_new fT)) h2
/-- a loop -/
theorem w_forI {F0 H0 : Hp} {L : List (Addr × HO)} {wi : TI} {D : Ends} {tb : TS} {g : TG} (W : Wr F0 H0 L F H k) (h : EvI wi σ F H none xs Y)
    (c : ∀ F1 H1, Gr F H F1 H1 → Wr F0 H0 L F1 H1 k → ∃ I : Nat → L2.St → Hp → Hp → Prop, I 0 σ F1 H1 ∧
      (∀ i x v σ' F' F2 H' H2, xs[i]? = some x → Same F1 F' → I i σ' F' H' → Gr F' H' F2 H2 → Y i x F2 v → g v σ' H2 fun σ2 H2 => tb { D with nx := Nx F1 I (i + 1), ct := Nx F1 I (i + 1), bk := D.nx } σ2 H2) ∧
      (∀ σ' F' H', Same F1 F' → I xs.length σ' F' H' → D.nx σ' H')) : tFor wi g tb D σ H := by
  refine h F H Gr.refl W.sub _ fun J F1 H1 g1 hJ => ?_
  have W1 := W.gro g1
  obtain ⟨I, i0, hs, he⟩ := c F1 H1 g1 W1
  refine ⟨fun i m σ' H' => m = xs.length - i ∧ i ≤ xs.length ∧ Nx F1 I i σ' H', ⟨xs.length, rfl, Nat.zero_le _, ⟨F1, Same.refl _, W1.sub, i0⟩⟩, ?_⟩
  rintro i m σ' H' ⟨rfl, hi, ⟨F', s, sb, ih⟩⟩
  have hh : Hold F1 none F' H' := ⟨s, sb, fun _ _ _ z => by cases z⟩
  by_cases hlt : i < xs.length
  · refine .inr ⟨hJ.go i F' H' hh hlt, Nx F1 I (i + 1), fun σ2 H2 p' => ⟨xs.length - (i + 1), by omega, rfl, hlt, p'⟩, fun y H2 yl => ?_⟩
    obtain ⟨x, F2, h1, g2, h3⟩ := hJ.yld i F' H' y H2 hh yl hlt
    exact hs i x y σ' F' F2 H' H2 h1 s ih g2 h3
  · have e : i = xs.length := by omega
    subst e
    exact .inl ⟨hJ.stop _ F' H' hh (Nat.le_refl _), he σ' F' H' s ih⟩

/-! ### comprehensions -/
/-- a comprehension's world: the new thing D holds o -/
structure CW (F0 H0 : Hp) (D : Addr) (o : HO) (F H : Hp) : Prop where
  gr : Gr F0 H0 F H
  sb : Sub F H
  h0 : H0 D = none
  f : F D = none
  h : H D = some o
  nt : notTup o = true
section
variable {F0 H0 F1 H1 : Hp} {D : Addr} {o u : HO}
theorem CW.start (s : Sub F0 H0) (h : H0 D = none) (nt : notTup o = true) : CW F0 H0 D o F0 (upd H0 D o) := ⟨Gr.new h, s.gr (Gr.new h), h, s.free h, upd_same, nt⟩
theorem CW.gro (c : CW F0 H0 D o F H) (g : Gr F H F1 H1) : CW F0 H0 D o F1 H1 := ⟨c.gr.trans g, c.sb.gr g, c.h0, g.none c.f c.h c.nt, g.ex _ _ c.h, c.nt⟩
theorem CW.set (c : CW F0 H0 D o F H) (nt : notTup u = true) : CW F0 H0 D u F (upd H D u) := by
  have nl : ∀ {G : Hp} {x : Addr} {r : HO}, G D = none → G x = some r → x ≠ D := fun n e z => by rw [z, n] at e; cases e
  refine ⟨⟨fun a r e => by rw [upd_ne (nl c.h0 e)]; exact c.gr.ex _ _ e, c.gr.fx, fun a r e1 e2 => ?_⟩, fun a r e => ?_, c.h0, c.f, upd_same, nt⟩
  · rw [upd_ne (nl c.f e2)]; exact c.gr.nw a r e1 e2
  · rw [upd_ne (nl c.f e)]; exact c.sb a r e
theorem CW.frz (c : CW F0 H0 D o F H) : Gr F0 H0 (upd F D o) H ∧ Same F (upd F D o) := by
  have s : Same F (upd F D o) := same_new c.f
  refine ⟨⟨c.gr.ex, c.gr.fx.trans s, fun a r e1 e2 => ?_⟩, s⟩
  by_cases z : a = D
  · subst z
    rw [upd_same] at e2
    cases e2
    exact ⟨c.h, .inl c.h0⟩
  · rw [upd_ne z] at e2
    exact c.gr.nw a r e1 e2
theorem CW.hold (c : CW F0 H0 D o F H) {Fb : Hp} (s : Same Fb F0) (hk : ∀ d od u, k = some (d, od, u) → H0 d = some (.frz od u)) : Hold Fb k F H := ⟨s.trans c.gr.fx, c.sb, fun d od u e => c.gr.ex _ _ (hk d od u e)⟩
end
theorem take_filter_snoc {p : α → Bool} {xs : List α} {i : Nat} {x : α} (h : xs[i]? = some x) : (xs.take (i + 1)).filter p = (xs.take i).filter p ++ (if p x then [x] else []) := by
  rw [List.take_succ, h]
  show ((xs.take i) ++ [x]).filter p = _
  rw [List.filter_append]
  congr 1
  by_cases e : p x = true <;> simp [e]
theorem turns_tLc {wi : TI} {g : TG} {tt : TT} {vs : List Nat} : tLc wi g tt te vs = tCc wi g tt (fun D σ H Q => te σ H fun y H4 => ∃ acc, H4 D = some (.lst acc) ∧ acc.length < sizeLine ∧ Q (upd H4 D (.lst (acc ++ [y])))) vs (fun _ => .lst []) := rfl
theorem ev_lc {wi : TI} {g : TG} {tt : TT} {vs : List Nat} {p : α → Bool} {q : α → Pr} (hi : EvI wi σ F H k xs (fun _ => f)) (hk : ∀ d od u, k = some (d, od, u) → H d = some (.frz od u)) (hl : xs.length ≤ 100000) (mq : ∀ x, Mn (q x))
    (hs : ∀ x v F1 H1, x ∈ xs → Gr F H F1 H1 → Sub F1 H1 → f x F1 v → ∀ Q : L2.St → Hp → Prop, (∀ σ2, wipe σ2 vs = wipe σ vs → EvT tt σ2 F1 H1 (p x) → (p x = true → EvP te σ2 F1 H1 (q x)) → Q σ2 H1) → g v (wipe σ vs) H1 Q) :
    EvP (tLc wi g tt te vs) σ F H (isLst ((xs.filter p).map q)) := fun F1 H1 g1 s1 Q hQ => by
  refine hi F1 H1 g1 s1 _ fun J F2 H2 g2 hJ D hD => ?_
  have s2 := s1.gr g2
  have gg := g1.trans g2
  have hk2 : ∀ d od u, k = some (d, od, u) → H2 d = some (.frz od u) := fun d od u e => gg.ex _ _ (hk d od u e)
  refine ⟨fun i m H' => m = xs.length - i ∧ i ≤ xs.length ∧ ∃ F' vs', CW F2 H2 D (.lst vs') F' H' ∧ PrL F' (((xs.take i).filter p).map q) vs', ⟨xs.length, rfl, Nat.zero_le _, F2, [], CW.start s2 hD rfl, by simp; exact .nil⟩, ?_⟩
  rintro i m H' ⟨rfl, hi', F', vs', cw, hp⟩
  have hh : Hold F2 k F' H' := cw.hold (Same.refl _) hk2
  by_cases hlt : i < xs.length
  · refine .inr ⟨hJ.go i F' H' hh hlt, fun H'' => ∃ F'' vs'', CW F2 H2 D (.lst vs'') F'' H'' ∧ PrL F'' (((xs.take (i + 1)).filter p).map q) vs'', fun H'' hn => ⟨_, by omega, rfl, hlt, hn⟩, fun v H'' hy => ?_⟩
    obtain ⟨x, F3, hx, g3, hf⟩ := hJ.yld i F' H' v H'' hh hy hlt
    have cw3 := cw.gro g3
    have hp3 := (mnl_map mq _ : MnL (((xs.take i).filter p).map q)).mn g3.fx hp
    refine hs x v F3 H'' (List.mem_of_getElem? hx) (gg.trans cw3.gr) cw3.sb hf _ fun σ2 hw ht he => ⟨hw, ht F3 H'' Gr.refl cw3.sb _ fun F4 H4 g4 => ?_⟩
    have cw4 := cw3.gro g4
    have hp4 := (mnl_map mq _ : MnL (((xs.take i).filter p).map q)).mn g4.fx hp3
    rw [take_filter_snoc hx]
    by_cases e : p x = true
    · rw [if_pos e]
      refine he e F4 H4 g4 cw4.sb _ fun y F5 H5 g5 hy5 => ?_
      have cw5 := cw4.gro g5
      have hp5 := (mnl_map mq _ : MnL (((xs.take i).filter p).map q)).mn g5.fx hp4
      have l5 : vs'.length ≤ 100000 := by
        have h1 := hp5.length
        have h2 := List.length_filter_le p (xs.take i)
        have h3 := List.length_take_le i xs
        rw [List.length_map] at h1
        omega
      refine ⟨vs', cw5.h, Nat.lt_of_le_of_lt l5 (by decide), F5, vs' ++ [y], cw5.set rfl, ?_⟩
      rw [if_pos e, List.map_append]
      exact hp5.append (.one hy5)
    · rw [if_neg e, if_neg e, List.append_nil]
      exact ⟨F4, vs', cw4, hp4⟩
  · have e : i = xs.length := by omega
    subst e
    rw [List.take_length] at hp
    obtain ⟨gz, sz⟩ := cw.frz
    exact .inl ⟨hJ.stop _ F' H' hh (Nat.le_refl _), hQ _ _ _ (g2.trans gz) ⟨D, vs', rfl, upd_same, (mnl_map mq _ : MnL ((xs.filter p).map q)).mn sz hp⟩⟩
/-- {k: v for ..} -/
theorem ev_dc {N : Type} [DecidableEq N] [nn : Nd N] {wi : TI} {g : TG} {vs : List Nat} {tk tv : TE} {kf : α → N} {q : α → Pr} (hi : EvI wi σ F H k xs (fun _ => f)) (hk : ∀ d od u, k = some (d, od, u) → H d = some (.frz od u)) (hl : xs.length ≤ 100000) (hn : (xs.map kf).Nodup) (mq : ∀ x, Mn (q x))
    (hs : ∀ x v F1 H1, x ∈ xs → Gr F H F1 H1 → Sub F1 H1 → f x F1 v → ∀ Q : L2.St → Hp → Prop, (∀ σ2, wipe σ2 vs = wipe σ vs → EvP tk σ2 F1 H1 (Nd.nd (kf x)) → EvP tv σ2 F1 H1 (q x) → Q σ2 H1) → g v (wipe σ vs) H1 Q) :
    EvP (tCc wi g tYes (tsD tk tv) vs (fun _ => Nd.dic ([] : List (N × V)))) σ F H (isD (xs.map fun x => (kf x, q x))) := fun F1 H1 g1 s1 Q hQ => by
  refine hi F1 H1 g1 s1 _ fun J F2 H2 g2 hJ D hD => ?_
  have s2 := s1.gr g2
  have gg := g1.trans g2
  have hk2 : ∀ d od u, k = some (d, od, u) → H2 d = some (.frz od u) := fun d od u e => gg.ex _ _ (hk d od u e)
  have nt : ∀ l : List (N × V), notTup (Nd.dic l) = true := fun l => isDct_notTup (nn.dct l)
  refine ⟨fun i m H' => m = xs.length - i ∧ i ≤ xs.length ∧ ∃ F' l, CW F2 H2 D (Nd.dic l) F' H' ∧ l.map (·.1) = (xs.take i).map kf ∧ PrL F' ((xs.take i).map q) (l.map (·.2)), ⟨xs.length, rfl, Nat.zero_le _, F2, [], CW.start s2 hD (nt _), rfl, by simp; exact .nil⟩, ?_⟩
  rintro i m H' ⟨rfl, hi', F', l, cw, hlk, hp⟩
  have hh : Hold F2 k F' H' := cw.hold (Same.refl _) hk2
  by_cases hlt : i < xs.length
  · refine .inr ⟨hJ.go i F' H' hh hlt, fun H'' => ∃ F'' l, CW F2 H2 D (Nd.dic l) F'' H'' ∧ l.map (·.1) = (xs.take (i + 1)).map kf ∧ PrL F'' ((xs.take (i + 1)).map q) (l.map (·.2)), fun H'' hn => ⟨_, by omega, rfl, hlt, hn⟩, fun v H'' hy => ?_⟩
    obtain ⟨x, F3, hx, g3, hf⟩ := hJ.yld i F' H' v H'' hh hy hlt
    have cw3 := cw.gro g3
    refine hs x v F3 H'' (List.mem_of_getElem? hx) (gg.trans cw3.gr) cw3.sb hf _ fun σ2 hw hky he => ⟨hw, ?_⟩
    show tsD tk tv D σ2 H'' _
    refine hky F3 H'' Gr.refl cw3.sb _ fun y F4 H4 g4 hy4 => he F4 H4 g4 (cw3.sb.gr g4) _ fun z F5 H5 g5 hz => ?_
    have cw5 := (cw3.gro g4).gro g5
    have hp5 := (mnl_map mq _ : MnL ((xs.take i).map q)).mn ((g3.fx.trans g4.fx).trans g5.fx) hp
    have ht : xs.take (i + 1) = xs.take i ++ [x] := by rw [List.take_succ, hx]; rfl
    have hnd : kf x ∉ l.map (·.1) := by
      rw [hlk]
      have : ((xs.take (i + 1)).map kf).Nodup := (List.Sublist.map _ (List.take_sublist _ _)).nodup hn
      rw [ht, List.map_append, List.nodup_append] at this
      exact fun z => this.2.2 _ z (kf x) (by simp) rfl
    have hln : (l.map (·.1)).Nodup := by rw [hlk]; exact (List.Sublist.map _ (List.take_sublist _ _)).nodup hn
    have hll : l.length ≤ 100000 := by
      have h1 : (l.map (·.1)).length = ((xs.take i).map kf).length := by rw [hlk]
      rw [List.length_map, List.length_map, List.length_take] at h1
      omega
    have dp := nn.put (y := z) cw5.h hln cw5.sb ((nn.mnd _).mn g5.fx hy4) (Nat.lt_of_le_of_lt hll (by decide))
    rw [put_new z (luk_none.mpr hnd)] at dp
    refine ⟨_, dp, F5, l ++ [(kf x, z)], cw5.set (nt _), ?_, ?_⟩
    · rw [ht, List.map_append, List.map_append, hlk]; rfl
    · rw [ht, List.map_append, List.map_append]
      exact hp5.append (.one hz)
  · have e : i = xs.length := by omega
    subst e
    rw [List.take_length] at hp hlk
    obtain ⟨gz, sz⟩ := cw.frz
    refine .inl ⟨hJ.stop _ F' H' hh (Nat.le_refl _), hQ _ _ _ (g2.trans gz) ⟨D, l, rfl, upd_same, ?_, ?_, ?_⟩⟩
    · rw [hlk, List.map_map]; rfl
    · rw [List.map_map]; exact hn
    · rw [List.map_map]
      exact (mnl_map mq _ : MnL (xs.map q)).mn sz hp
/-- a frozen dict that is locked the while -/
theorem ev_lock {t : TE} {d : Addr} {u : HO} {P : Pr} (hF : F d = some u) (hH : H d = some u) (hd : isDct u = true) (hm : Mut (some u)) (h : ∀ F1 H1 od, Gr F H F1 H1 → EvP t σ F1 (upd H1 d (.frz od u)) P) : EvP (tLockE t) σ F H P := fun F1 H1 g s Q q => by
  have e1 := g.ex _ _ hH
  have e2 := g.fx _ _ hF
  refine ⟨d, u, e1, hm, fun od => ?_⟩
  have sb : Sub F1 (upd H1 d (.frz od u)) := fun a o e => by
    by_cases z : a = d
    · subst z
      rw [e2] at e
      cases e
      exact .inr ⟨hd, od, upd_same⟩
    · rcases s a o e with x | ⟨x, ob, y⟩
      · exact .inl (by rw [upd_ne z]; exact x)
      · exact .inr ⟨x, ob, by rw [upd_ne z]; exact y⟩
  refine h F1 H1 od g F1 _ Gr.refl sb _ fun v F2 H2 g2 hp => ⟨g2.ex _ _ upd_same, q v F2 _ ⟨fun a o e => ?_, g2.fx, fun a o n1 n2 => ?_⟩ hp⟩
  · by_cases z : a = d
    · subst z; rw [e1] at e; cases e; exact upd_same
    · rw [upd_ne z]; exact g2.ex _ _ (by rw [upd_ne z]; exact e)
  · obtain ⟨x1, x2⟩ := g2.nw a o n1 n2
    have z : a ≠ d := fun z => by rw [z, e2] at n1; cases n1
    refine ⟨by rw [upd_ne z]; exact x1, x2.imp (fun n => ?_) id⟩
    rw [upd_ne z] at n
    exact n
end
end EL

set_option Elab.async false
set_option linter.all false
set_option maxRecDepth 100000
set_option maxHeartbeats 1000000
/-! rules of the text that the layer lacks -/
namespace EL
open PySem PySem.Spec PyProof.Rows L2

/-! {k: v}, keys as Nd says -/
def tDisp1 (o : HO) (tk tv : TE) : TE := fun σ H Q => ∀ p, H p = none → tk σ (upd H p o) fun x H1 => tv σ H1 fun y H2 => ∃ H3, DPut H2 p x y H3 ∧ Q (.ref p) H3
section
variable {X : Cx} {kx vx : Expr} {tk tv : TE} {pos : Pos}
theorem pe_disp1 {N : Type} [DecidableEq N] [nn : Nd N] (hu : X.A.units + 1 < cLine) (hk : PE X kx tk) (hv : PE X vx tv) : PE X (.Dict [some kx] [vx] pos) (tDisp1 (Nd.dic ([] : List (N × V))) tk tv) := by
  refine ⟨fun pins s σ H Q I h => ?_⟩
  have hn := I.hok.fresh (Nat.le_refl s.heap.objs.size)
  have I1 := I.laid (a := s.heap.objs.size) (o := Nd.dic ([] : List (N × V))) (h' := s.heap.push { cls := .type "dict", data := .dict #[] }) (t' := s.toks) (fun _ _ q => Heap.get?_push_of_some _ q) (Nat.le_refl _) (nn.emp s.heap I.big)
  refine wpAny_Dict_any rfl rfl (by simp) (by simp) (pairTrees_cons_walk (thn (hk.run pins _ σ _ _ I1 (h _ hn)) fun u s1 ⟨x, H1, I2, rx, q1⟩ => thn (hv.run pins s1 σ H1 _ I2 q1) fun w2 s2 ⟨y, H2, I3, ry, H3, dp, q2⟩ => pairTrees_nil_walk ?_))
  unfold storeAll
  rw [List.forIn_cons]
  refine wpAny_bind (wpAny_bind (d_dictSetP hu I3 dp rx ry fun s3 I4 => wpAny_pure ?_))
  show wpAny _ _ (pure PUnit.unit) _ _ s3
  exact wpAny_pure ⟨.ref s.heap.objs.size, H3, I4, rfl, q2⟩
end

/-! text * int -/
def strRep (x : Str) (n : Nat) : Str := ⟨(List.replicate n x.cps).foldl (· ++ ·) #[]⟩
theorem size_foldl_rep (A : Array Nat) : ∀ (n : Nat) (B : Array Nat), ((List.replicate n A).foldl (· ++ ·) B).size = B.size + n * A.size
  | 0, B => by simp
  | n + 1, B => by
    rw [List.replicate_succ, List.foldl_cons, size_foldl_rep A n, Array.size_append, Nat.succ_mul]
    omega
theorem strRep_length (x : Str) (n : Nat) : (strRep x n).length = n * x.length := by
  show ((List.replicate n x.cps).foldl (· ++ ·) #[]).size = _
  rw [size_foldl_rep]
  exact Nat.zero_add _
def rRepS : R2 := fun x y H Q => ∃ (a : Str) (n : Nat), x = .str a ∧ y = .int (n : Int) ∧ a.length * n ≤ 100000 ∧ 2 ≤ n ∧ a.length ≠ 0 ∧ n ≤ 100000 ∧ Q (.str (strRep a n)) H
section
variable {X : Cx}
theorem op_repS1 : OpR X (binaryOp .Mult) (fun x y H Q => rRepS x y H Q ∨ ∃ a, x = .str a ∧ y = .int 1 ∧ Q (.str a) H) := by
  intro pins s σ H x y v u Q I rx ry h
  rcases h with ⟨a, n, rfl, rfl, hz, h2, h0, hn, q⟩ | ⟨a, rfl, rfl, q⟩
  · obtain ⟨t, rfl⟩ := rx
    obtain ⟨t2, rfl⟩ := ry
    have n1 : ¬ ((n : Int) < 1) := by omega
    have n2 : ((n : Int) == 1 || a.length == 0) = false := by
      have e1 : ((n : Int) == 1) = false := beq_eq_false_iff_ne.mpr (by omega)
      have e2 : (a.length == 0) = false := beq_eq_false_iff_ne.mpr h0
      rw [e1, e2]; rfl
    refine PySem.P.mul_str ?_ (fun _ _ => ?_) (fun _ _ => ?_) ?_
    · rw [decide_eq_false (by omega), decide_eq_false (by omega)]; rfl
    · have h3 : a.length ≤ 100000 := Nat.le_trans (Nat.le_mul_of_pos_right _ (by omega)) hz
      intro hc
      have : (92233720368547 : Int) ≤ (2 ^ 63 - 1) / (n : Int) := by
        refine Int.le_ediv_of_mul_le (by omega) ?_
        have : (n : Int) ≤ 100000 := by omega
        omega
      omega
    · rw [Int.toNat_natCast]
      exact short24 (by omega)
    · rw [if_neg n1, if_neg (by rw [n2]; exact Bool.false_ne_true), Int.toNat_natCast]
      refine ⟨?_, .str (strRep a n), H, I.tok _, ⟨_, rfl⟩, q⟩
      show (strRep a n).length ≤ sizeLine
      rw [strRep_length, Nat.mul_comm, sizeLine_eq]
      omega
  · obtain ⟨t, rfl⟩ := rx
    obtain ⟨t2, rfl⟩ := ry
    refine PySem.P.mul_str (by rfl) (fun _ h => by simp at h) (fun _ h => by simp at h) ?_
    rw [if_neg (by decide), if_pos (by rfl)]
    exact ⟨.str a, H, I, ⟨_, rfl⟩, q⟩
end

/-! list(text) -/
def rListS : List V → Hp → VK → Prop := fun xs H Q => ∃ x : Str, xs = [.str x] ∧ x.length ≤ 100000 ∧ ∀ p, H p = none → Q (.ref p) (upd H p (.lst (x.cps.toList.map fun c => V.str ⟨#[c]⟩)))
section
variable {X : Cx}
theorem call_listS (hc : X.calm = true) : CallR X (.type "list") rListS := by
  intro pins s σ H xs us Q I r h
  obtain ⟨x, e, hz, q⟩ := h
  subst e
  obtain ⟨u, eu, rx⟩ := vals1 r
  subst eu
  obtain ⟨t, rfl⟩ := rx
  have hz' : x.cps.size ≤ sizeLine := Nat.le_trans hz (by decide)
  refine call_list_str (I.ok.hd hc) x t (hn := hz') fun h' tk acc' c' hk hS hacc => ?_
  refine ⟨.ref s.heap.objs.size, upd H s.heap.objs.size (.lst (x.cps.toList.map fun c => V.str ⟨#[c]⟩)), I.laid hk (Nat.le_refl _) (show ObjOk X.prog X.w _ _ _ (.lst (x.cps.toList.map fun c => V.str ⟨#[c]⟩)) from ⟨?_, acc'.toList, c', ?_, ?_⟩), rfl, q _ (I.hok.fresh (Nat.le_refl _))⟩
  · rw [List.length_map, Array.length_toList]; exact hz'
  · refine vals_of_at (by rw [List.length_map, Array.length_toList, Array.length_toList, hacc.1]) fun j w v h1 h2 => ?_
    obtain ⟨c, u, h3, rfl⟩ := hacc.2 j v (by rw [← Array.getElem?_toList]; exact h2)
    rw [List.getElem?_map, Array.getElem?_toList, h3] at h1
    cases h1
    exact ⟨u, rfl⟩
  · rw [Array.toArray_toList]; exact hS
end

/-! sorted(dict) -/
section
variable {prog : Program} {w : World} {A : Around} {E : Value → Shared → Prop} {s : Shared} {r d : Addr} {T : String} {n : Nat} {P : Nat → Value → Prop} {OK : Heap → Prop}
theorem collect_src {R : List Value → Shared → Prop} (src : PySem.W.KdlSrc prog w T r d n P OK) (calm : A.handled = none) (ok : OK s.heap) (len : n ≤ sizeLine)
    (fin : ∀ (g : Heap) (tk : Nat) (acc : Array Value), s.heap.objs.size < g.objs.size → (∀ b o, s.heap.get? b = some o → g.get? b = some o) → ItemsOf P acc n → R acc.toList { s with heap := g, toks := tk }) :
    wpAny (model prog w) A (collect (.ref r)) R E s := by
  obtain ⟨lt1, lt2⟩ := src.there _ ok
  unfold collect
  apply wpAny_bind
  apply wpAny_runValue
  apply codeAny_builtin entry_proto_collect'
  rw [Around.under_plainId (PySem.F.plain_proto_collect)]
  apply wpAny_bind
  refine wpAny_newObj_type ?_
  apply wpAny_pure
  constructor
  · exact plainId_quiet PySem.F.plain_list_iadd _
  apply codeAny_builtin entry_list_iadd'
  rw [Around.under_plainId (PySem.F.plain_list_iadd)]
  have s1 : (s.heap.push { cls := .type "list", data := .seq ([] : List Value).toArray }).get? s.heap.objs.size = some { cls := .type "list", data := .seq #[] } := Heap.get?_push_size _ rfl
  have big := PySem.W.kdl_extend (A := A) (s := { s with heap := s.heap.push { cls := .type "list", data := .seq ([] : List Value).toArray } })
    (R := fun (q : Result) (s' : Shared) => ∃ (g : Heap) (tk : Nat) (ac : Array Value) (c : Nat), q = .ok (.ret (.ref s.heap.objs.size)) ∧ s' = { s with heap := g, toks := tk } ∧
      (∀ b o, s.heap.get? b = some o → g.get? b = some o) ∧ g.get? s.heap.objs.size = some { cls := .type "list", dict := none, data := .seq ac c, slots := #[] } ∧ ItemsOf P ac n)
    src calm (src.keep _ _ ok fun b _ o e => Heap.get?_push_of_some _ e) s.heap.objs.size (Nat.ne_of_gt lt1) (Nat.ne_of_gt lt2) (.ref s.heap.objs.size) 0 s1
    (fun g tk ac c hk hS hacc => ⟨g, tk, ac, c, rfl, rfl, fun b o e => hk b o (Nat.ne_of_lt (Heap.lt_size e)) (Heap.get?_push_of_some _ e), hS, hacc⟩) len
  apply wpAny_mono big
  · intro f s' x
    cases f with
    | done f =>
      obtain ⟨g, tk, ac, c, e, rfl, hk, hS, hacc⟩ := x
      cases e
      exact wpAny_bind (wpAny_load hS (wpAny_pure (fin g tk ac (Heap.lt_size hS) hk hacc)))
    | again c1 =>
      refine ⟨x.1, codeAny_mono x.2 fun q s2 y => ?_⟩
      obtain ⟨g, tk, ac, c, rfl, rfl, hk, hS, hacc⟩ := y
      exact wpAny_bind (wpAny_load hS (wpAny_pure (fin g tk ac (Heap.lt_size hS) hk hacc)))
  · intro e s' x
    obtain ⟨_, _, _, _, e', _⟩ := x
    cases e'
end
section
variable {X : Cx}
def rSortedD : List V → Hp → VK → Prop := fun vs H Q => ∃ (a : Addr) (l : List (Int × V)), vs = [V.ref a] ∧ H a = some (ndInt.dic l) ∧ l.length < 64 ∧
  ∀ (ns' : List Int) (p : Addr), ns'.Perm (l.map (·.1)) → H p = none → Q (.ref p) (upd H p (.lst (ns'.map V.int)))
theorem cr_sortedD (hc : X.calm = true) : CallR X (.builtin "sorted") rSortedD := by
  intro pins s σ H vs us Q I r h
  obtain ⟨a, l, rfl, hk, h64, q⟩ := h
  rw [Vals.ref1 r]
  obtain ⟨z, lo, ws, rk, hd⟩ := (show ObjOk X.prog X.w H s.heap a (.dK (l.map fun p => (Sum.inl p.1, p.2))) from I.hok a _ hk)
  obtain ⟨ep, hat⟩ := hd.dictAt
  have hl : l.length = ws.length := by have := Paired.length rk; rw [List.length_map] at this; exact this
  refine Calls.call_function_entry kind_sorted plain_sorted entry_sorted (args_sorted1 _) ?_
  unfold Builtin.«sorted»
  refine wpAny_bind (m := checkCount "sorted" 1 1 _) (wpAny_pure ?_)
  refine wpAny_bind (collect_src (A := X.A.in1) (PySem.W.kdl_dict (knd := mixKind X.prog X.w) (kvs := ws) (ep := ep) lo) (I.ok.hd hc) hat (by rw [← hl]; exact small64 h64) fun h1 tk acc hlt1 hk1 hacc => ?_)
  have hal : acc.toList.length = l.length := by rw [Array.length_toList, hacc.1, hl]
  have hI : IntsAre acc.toList (l.map (·.1)) := by
    have rv : Vals ((l.map (·.1)).map V.int) acc.toList := by
      refine vals_of_at (by rw [List.length_map, List.length_map, hal]) fun j w v e1 e2 => ?_
      obtain ⟨k, y, hky, hi⟩ := hacc.2 j v (by rw [← Array.getElem?_toList]; exact e2)
      have e3 : ((l.map fun p => ((Sum.inl p.1 : Key), p.2)).map (·.1))[j]? = some k := by
        rw [KV.keys rk, List.getElem?_map, hky]; rfl
      rw [List.map_map, List.getElem?_map] at e1 e3
      cases e4 : l[j]? with
      | none => rw [e4] at e3; cases e3
      | some p =>
        rw [e4] at e1 e3
        cases e1
        cases e3
        exact keyIs_rel (k := Sum.inl p.1) hi
    exact rv.ints
  refine wpAny_bind (wpAny_newList ?_ (by rw [hal]; exact small64 h64))
  have hoL : (h1.push (seqObj "list" acc.toList.toArray 0)).get? h1.objs.size = some (seqObj "list" acc.toList.toArray 0) := Heap.get?_push_size _ rfl
  refine wpAny_bind (wpAny_holding (wpAny_call_entry slot_list_sort ⟨_, hoL, rfl⟩ entry_list_sort (list_sort_tree hoL hI (by rw [hal]; exact h64) fun out ns' a1 a2 a3 => ⟨_, rfl, ?_⟩) (args_list_sort _)))
  obtain ⟨c, hc2⟩ := sortedHeap_at (vs := acc.toList) (out := out) hoL
  have hlen : (ns'.map V.int).length ≤ sizeLine := by rw [List.length_map, a2.length_eq, List.length_map]; exact small64 h64
  have hge : s.heap.objs.size ≤ h1.objs.size := Nat.le_of_lt hlt1
  refine wpAny_pure ⟨_, rfl, .ref h1.objs.size, upd H h1.objs.size (.lst (ns'.map V.int)), I.laid (t' := tk) (fun b o e => ?_) hge ⟨hlen, out.toList, c, vals_of_ints a1, by rw [Array.toArray_toList]; exact hc2⟩, rfl, q ns' _ a2 (I.hok.fresh hge)⟩
  have q1 := hk1 b o e
  have hlt := Heap.lt_size q1
  rw [sortedHeap_old (Nat.ne_of_lt hlt) (by rw [size_push']; exact Nat.lt_succ_of_lt hlt)]
  exact Heap.get?_push_of_some _ q1
end
end EL

set_option Elab.async false
set_option linter.all false
set_option maxRecDepth 100000
set_option maxHeartbeats 1000000
/-! the rules that name the run's frag, told with the frag outside -/
namespace EL
open PySem PySem.Spec PyProof.Rows L2
section
variable {X : Cx} {K : PySem.W.Frag} (h : X.K = K)
include h
theorem ix_tupK : IxR X (rIxT K) := by subst h; exact ix_tup
theorem ix_listK : IxR X (rIxL K) := by subst h; exact ix_list
theorem pg_tupK {es : List Expr} {k : Nat} {t : TGs} {n : Nat} {pos : Pos} (hc : X.calm = true) (hg : PGs X es t) (hn : (assignEach es X.env).length = n := by rfl) (hst : (assignEach es X.env).findIdx? (·.1) = none := by rfl) : PG X (.Tuple es k pos) (gTup K n t) := by subst h; exact pg_tup hc hg hn hst
theorem pi_listK {tg l : Expr} {tl : TE} (hl : PE X l tl) : PI X tg l (iList K tl) := by subst h; exact pi_list hl
theorem pi_tupK {tg l : Expr} {tl : TE} (hl : PE X l tl) : PI X tg l (iTup K tl) := by subst h; exact pi_tup hl
theorem op_in_seqK : OpR X (compareOp .In) (rIn K false) := by subst h; exact op_in_seq
theorem op_notIn_seqK : OpR X (compareOp .NotIn) (rIn K true) := by subst h; exact op_notIn_seq
theorem call_len_seqK : CallR X (.builtin "len") (fun xs H Q => ∃ p ys, xs = [.ref p] ∧ (SqL K H p ys ∨ SqT K H p ys) ∧ Q (.int ys.length) H) := by subst h; exact call_len_seq
theorem call_list_ofK : CallR X (.type "list") (fun xs H Q => ∃ p ys, xs = [.ref p] ∧ (SqL K H p ys ∨ SqT K H p ys) ∧ ∀ l, H l = none → Q (.ref l) (upd H l (.lst ys))) := by subst h; exact call_list_of
theorem call_tuple_ofK : CallR X (.type "tuple") (fun xs H Q => ∃ p ys, xs = [.ref p] ∧ ((SqL K H p ys ∧ ∀ l, H l = none → Q (.ref l) (upd H l (.tup ys))) ∨ (SqT K H p ys ∧ Q (.ref p) H))) := by subst h; exact call_tuple_of
theorem cr_allK (hc : X.calm = true) : CallR X (.builtin "all") (rAll K) := by subst h; exact cr_all hc
theorem cr_anyK (hc : X.calm = true) : CallR X (.builtin "any") (rAny K) := by subst h; exact cr_any hc
theorem cr_maxK (hc : X.calm = true) : CallR X (.builtin "max") (rMax K) := by subst h; exact cr_max hc
theorem cr_sortedK : CallR X (.builtin "sorted") (rSorted K) := by subst h; exact cr_sorted
theorem sl_listK : SlR X (rSlL K) := by subst h; exact sl_list
theorem pe_revLK {e : Expr} {te : TE} {k : Nat} {p1 p2 p3 pos : Pos} (he : PE X e te) : PE X (.Subscript e (.Slice none none (some (.UnaryOp .USub (.Constant (.int 1) k p1) p2)) p3) pos) (tRevL K te) := by subst h; exact pe_revL he
theorem op_eqDK (hu : X.A.units + 64 < cLine) : OpR X (compareOp .Eq) (rEqD K) := by subst h; exact op_eqD hu
theorem op_neDK (hu : X.A.units + 64 < cLine) : OpR X (compareOp .NotEq) (rNeD K) := by subst h; exact op_neD hu
theorem op_neNilK (hu : X.A.units < cLine) : OpR X (compareOp .NotEq) (rNeNil K) := by subst h; exact op_neNil hu
theorem mt_indexK : MtR X "list.index" (rIndex K) := by subst h; exact mt_index
theorem mt_indexDK (hu : X.A.units + 65 < cLine) : MtR X "list.index" (rIndexD K) := by subst h; exact mt_indexD hu
variable {o e : Expr} {es : List Expr} {to : TE} {t : TA} {name : Str} {apos cpos : Pos} {T id : String} {r : V → List V → Hp → VK → Prop}
theorem pe_bm0K (pa : PlainAttrs T) (slot : Slot T name id) (hty : typeOf (.builtin id) = pure (.type "method_descriptor")) (hm : MtR X id r) (ho : PE X o to)
    (hbase : attributeBase o name X.env (eval o X.env) = eval o X.env := by rfl) (hline : (apos.endLine == cpos.line) = true := by rfl) : PE X (.Call (.Attribute o name apos) [] [] cpos) (tBM0 K T r to) := by
  subst h; exact pe_bm0 pa slot hty hm ho hbase hline
theorem pe_bmK (pa : PlainAttrs T) (slot : Slot T name id) (hty : typeOf (.builtin id) = pure (.type "method_descriptor")) (hm : MtR X id r) (ho : PE X o to) (ha : PA X (e :: es) t)
    (hbase : attributeBase o name X.env (eval o X.env) = eval o X.env := by rfl)
    (hfew : ((backTo cpos (starEach (e :: es) X.env)).all (fun x => !x.1) && (backToKw cpos (keywordEach [] X.env)).all (fun x => x.1.isSome)
      && decide ((e :: es).length + ([] : List Keyword).length + (if ([] : List Keyword).isEmpty then 0 else 1) < 30)) = true := by rfl)
    (hline : (apos.endLine == cpos.line) = true := by rfl) (hs : starEach (e :: es) X.env = (false, eval e X.env) :: starEach es X.env := by rfl) (hplain : (backTo cpos (starEach es X.env)).any (·.1) = false := by rfl) :
    PE X (.Call (.Attribute o name apos) (e :: es) [] cpos) (tBM K T r to t) := by
  subst h; exact pe_bm pa slot hty hm ho ha hbase hfew hline hs hplain
theorem pe_fldK {f : Str} {ta : TE} {pos : Pos} (he : PE X e ta) (hb : attributeBase e f X.env (eval e X.env) = eval e X.env) : PE X (.Attribute e f pos) (tFld K ta f) := by subst h; exact pe_fld he hb
theorem pi_enumK {e : Expr} {ta : TA} {p pos tpos : Pos} {elts : List Expr} {kk : Nat} (hg : Gl X "enumerate") (hm : X.mg "enumerate" = none) (ha : PA X [e] ta) (hs : starEach [e] X.env = [(false, eval e X.env)] := by rfl) :
    PI X (.Tuple elts kk tpos) (.Call (.Name "enumerate" p) [e] [] pos) (iEnum K ta) := by subst h; exact pi_enum hg hm ha hs
end
section
variable {X : Cx}
theorem pe_sindex {o e : Expr} {to te : TE} {apos pos : Pos} (ho : PE X o to) (he : PE X e te) (hs : starEach [e] X.env = [(false, eval e X.env)] := by rfl) (hbase : attributeBase o "index" X.env (eval o X.env) = eval o X.env := by rfl) (hline : (apos.endLine == pos.line) = true := by rfl) :
    PE X (.Call (.Attribute o "index" apos) [e] [] pos) (tM1 (fun x xs H Q => ∃ a b i rest, x = .str a ∧ xs = [.str b] ∧ Builtin.Str.occurrences a b 0 a.length 1 = i :: rest ∧ Q (.int (i : Nat)) H) to te) :=
  pe_m1 PySem.F.slot_str_index PySem.F.type_str_index mt_sindex ho he hs hbase hline
end
end EL

set_option Elab.async false
set_option linter.all false
set_option maxRecDepth 100000
set_option maxHeartbeats 2000000
namespace EL
open PySem PySem.Spec PyProof.Rows L2

section
variable {K : PySem.W.Frag} {F0 H0 F H : Hp} {L : List (Addr × HO)} {σ : L2.St} {D : Ends} {tb : TS} {g : TG}
/-- for n in a frozen dict: d[n] = .. (or nothing), d a dict of one's own -/
theorem w_fill {N : Type} [DecidableEq N] [nn : Nd N] {jv jd : Nat} {a Dd : Addr} {l : List (N × V)} (W : Wr F0 H0 L F H none) (hv : σ[jv]? = some (some (.ref a))) (hd : F a = some (Nd.dic l)) (hL : L[jd]? = some (Dd, Nd.dic ([] : List (N × V))))
    (hn : (l.map (·.1)).Nodup) (hz : l.length < 100000) (c : N → Bool) (q : N → Pr) (mq : ∀ n, Mn (q n)) (St : L2.St → Prop) (hst : St σ)
    (body : ∀ n v σ' F' H' k kvs, n ∈ l.map (·.1) → Same F F' → St σ' → Wr F0 H0 (L.set jd (Dd, Nd.dic kvs)) F' H' k → Nd.nd n F' v → (kvs.map (·.1)).Nodup → kvs.length < 100000 → ∀ D' : Ends,
      (c n = false → ∀ σ2 F2 H2, St σ2 → Same F' F2 → Wr F0 H0 (L.set jd (Dd, Nd.dic kvs)) F2 H2 k → D'.nx σ2 H2) →
      (c n = true → ∀ σ2 F2 H2 w, St σ2 → Same F' F2 → q n F2 w → Wr F0 H0 (L.set jd (Dd, Nd.dic (putA kvs n w))) F2 H2 k → D'.nx σ2 H2) → g v σ' H' fun σ2 H2 => tb D' σ2 H2)
    (fin : ∀ σ' F' H' kvs, St σ' → Same F F' → Wr F0 H0 (L.set jd (Dd, Nd.dic kvs)) F' H' none → kvs.map (·.1) = (l.map (·.1)).filter c → PrL F' (((l.map (·.1)).filter c).map q) (kvs.map (·.2)) → D.nx σ' H') :
    tLock (tFor (iKeys (tVar jv)) g tb) D σ H := by
  refine w_forK (l := l) W hv hd fun od W2 => ?_
  have hset : ∀ (o o' : HO), (L.set jd (Dd, o)).set jd (Dd, o') = L.set jd (Dd, o') := fun o o' => by rw [List.set_set]
  have hself : L.set jd (Dd, Nd.dic ([] : List (N × V))) = L := by
    refine List.ext_getElem? fun i => ?_
    rw [List.getElem?_set]
    split
    · rename_i e
      subst e
      rw [hL]
      split
      · rfl
      · rename_i z
        have := (List.getElem?_eq_some_iff.mp hL).1
        omega
    · rfl
  refine ⟨fun i σ' F' H' => ∃ kvs : List (N × V), St σ' ∧ Wr F0 H0 (L.set jd (Dd, Nd.dic kvs)) F' H' (some (a, od, Nd.dic l)) ∧ kvs.map (·.1) = ((l.map (·.1)).take i).filter c ∧ PrL F' ((((l.map (·.1)).take i).filter c).map q) (kvs.map (·.2)),
    ⟨[], hst, by rw [hself]; exact W2, by simp, by simp; exact .nil⟩, ?_, ?_, ?_⟩
  · rintro i σ' F' H' ⟨kvs, _, W3, _⟩
    exact (W3.lk _ _ _ rfl).1
  · rintro i n w v σ' F' F2 H' hi sF ⟨kvs, hs, W3, hk, hp⟩ g2 hnd
    have hni : (l.map (·.1))[i]? = some n := by rw [List.getElem?_map, hi]; rfl
    have htk := take_filter_snoc (p := c) hni
    have hsub : (kvs.map (·.1)).Sublist (l.map (·.1)) := by rw [hk]; exact (List.filter_sublist ..).trans (List.take_sublist _ _)
    have hnd2 : (kvs.map (·.1)).Nodup := hsub.nodup hn
    have hlen : kvs.length < 100000 := by
      have := hsub.length_le
      rw [List.length_map, List.length_map] at this
      omega
    have hnot : n ∉ kvs.map (·.1) := by
      rw [hk]
      intro z
      have z := (List.mem_filter.mp z).1
      obtain ⟨j, hj⟩ := List.getElem?_of_mem z
      rw [List.getElem?_take] at hj
      split at hj
      · rename_i lt
        have h1 := nd_ix hn hj hni
        omega
      · cases hj
    have hp2 := (mnl_map mq _ : MnL ((((l.map (·.1)).take i).filter c).map q)).mn g2.fx hp
    refine body n v σ' F2 H' _ kvs (List.mem_of_getElem? hni) (sF.trans g2.fx) hs (W3.gro g2) hnd hnd2 hlen _ (fun hc σ2 F3 H3 hs3 s3 W4 => ?_) (fun hc σ2 F3 H3 w hs3 s3 hw W4 => ?_)
    · refine ⟨F3, (sF.trans g2.fx).trans s3, W4.sub, kvs, hs3, W4, ?_, ?_⟩
      · rw [htk, if_neg (by rw [hc]; exact Bool.false_ne_true), List.append_nil]; exact hk
      · rw [htk, if_neg (by rw [hc]; exact Bool.false_ne_true), List.append_nil]
        exact (mnl_map mq _ : MnL ((((l.map (·.1)).take i).filter c).map q)).mn s3 hp2
    · refine ⟨F3, (sF.trans g2.fx).trans s3, W4.sub, putA kvs n w, hs3, W4, ?_, ?_⟩
      · rw [htk, if_pos hc, put_keys_new _ hnot, hk]
      · rw [htk, if_pos hc, put_new _ (luk_none.mpr hnot), List.map_append, List.map_append]
        exact ((mnl_map mq _ : MnL ((((l.map (·.1)).take i).filter c).map q)).mn s3 hp2).append (.one hw)
  · rintro σ' F' H' sF ⟨kvs, hs, W3, hk, hp⟩
    rw [show l.length = (l.map (·.1)).length by rw [List.length_map], List.take_length] at hk hp
    exact fin σ' F' _ kvs hs sF W3.unlockF hk hp
/-- target(s) = e -/
theorem w_asg {k : Lk} {te : TE} {P : Pr} (W : Wr F0 H0 L F H k) (h : EvP te σ F H P) (c : ∀ v F1 H1, Gr F H F1 H1 → Wr F0 H0 L F1 H1 k → P F1 v → g v σ H1 D.nx) : tAsg te g D σ H :=
  h F H Gr.refl W.sub _ fun v F2 H2 gg p => c v F2 H2 gg (W.gro gg) p
end

/-! ### subgraphs -/
section
variable {N : Type} [DecidableEq N]
/-- the edges that c lets stand -/
def sub (g : Gph N) (nc : N → Bool) (c : Tag × N → Bool) : Gph N := (g.filter fun p => nc p.1).map fun p => (p.1, p.2.filter c)
def bnd (g : Gph N) (a b : Int) : Gph N := sub g (fun _ => true) fun e => decide (e.1.2.1 ≤ a) && decide (e.1.2.2 ≤ b)
theorem keys_sub (g : Gph N) (nc : N → Bool) (c : Tag × N → Bool) : keys (sub g nc c) = (keys g).filter nc := by
  unfold keys sub
  rw [List.map_map, List.filter_map]
  rfl
theorem adj_sub {g : Gph N} {nc : N → Bool} {c : Tag × N → Bool} {n : N} (hn : nc n = true) : adj (sub g nc c) n = (adj g n).filter c := by
  unfold adj
  induction g with
  | nil => rfl
  | cons p r ih =>
    unfold sub
    rw [List.filter_cons]
    by_cases e : p.1 = n
    · rw [if_pos (by rw [e]; exact hn), List.map_cons]
      show (luk _ _).getD [] = _
      unfold luk
      rw [if_pos e, if_pos e]
      rfl
    · have e2 : luk (p :: r) n = luk r n := by
        show (if p.1 = n then some p.2 else luk r n) = _
        rw [if_neg e]
      rw [e2, ← ih]
      split
      · rw [List.map_cons]
        show (if p.1 = n then _ else luk _ n).getD [] = _
        rw [if_neg e]
        rfl
      · rfl
end
theorem adj_cap {N : Type} [DecidableEq N] {g : Gph N} {n : N} (h : (keys g).Nodup) (hn : n ∈ keys g) : (adj g n).length ≤ cap g := by
  have h1 := wgt_new (seen := ([] : List N)) (by simp) (r := g) h hn
  have h2 := wgt_nil g
  unfold adj cap
  omega
section
variable {N : Type} [DecidableEq N] [nn : Nd N]
theorem pG_of {g : Gph N} {nc : N → Bool} {c : Tag × N → Bool} {F : Hp} {a : Addr} {kvs : List (N × V)} (hg : (keys g).Nodup) (h : F a = some (Nd.dic kvs)) (hk : kvs.map (·.1) = (keys g).filter nc) (hp : PrL F (((keys g).filter nc).map fun n => pEs ((adj g n).filter c)) (kvs.map (·.2))) :
    pG (sub g nc c) F (.ref a) := by
  refine ⟨a, kvs, rfl, h, ?_, ?_, ?_⟩
  · rw [map_fst_pG, keys_sub]; exact hk
  · rw [map_fst_pG, keys_sub]; exact hg.filter _
  · rw [map_snd_pG]
    have e : (sub g nc c).map (fun p => pEs (N := N) p.2) = ((keys g).filter nc).map fun n => pEs ((adj g n).filter c) := by
      have : ∀ r : Gph N, (∀ p ∈ r, p ∈ g) → (sub r nc c).map (fun p => pEs (N := N) p.2) = ((keys r).filter nc).map fun n => pEs ((adj g n).filter c) := by
        intro r
        induction r with
        | nil => intro _; rfl
        | cons p r ih =>
          intro hm
          have ih := ih fun q hq => hm q (List.mem_cons_of_mem _ hq)
          have hap : adj g p.1 = p.2 := by
            unfold adj
            rw [luk_of_mem hg (hm p List.mem_cons_self)]
            rfl
          unfold sub keys at ih ⊢
          rw [List.map_cons, List.filter_cons, List.filter_cons]
          by_cases hc : nc p.1 = true
          · rw [if_pos hc, if_pos hc, List.map_cons, List.map_cons, List.map_cons, ih, hap]
          · rw [if_neg hc, if_neg hc, ih]
      exact this g fun _ h => h
    rw [e]
    exact hp
end
def spBnd : Sp := fun vs H Q _ => ∃ (F : Hp) (g : Gph (Int × Int)) (v : V) (a b : Int), vs = [v, .int a, .int b] ∧ Same F H ∧ pG g F v ∧ Wf g ∧ cap g ≤ 10000 ∧ Ret F H (pG (bnd g a b)) Q
theorem sc_bounded : FnScope ["edges", "first", "second", "found", "node", "rows", "tag", "target"] ["edges", "first", "second"] (defScope sBounded) := ⟨rfl, rfl, rfl, by decide +kernel, rfl, by decide +kernel, by decide +kernel⟩
section
variable {P : Program} {w : World} {K : PySem.W.Frag} {mg : Str → Option Value} {base : Heap}
theorem ok_bounded (E : Tops K mg) : Cal P w K mg base 1 "bounded" ["edges", "first", "second"] spBnd := by
  refine Cal.of E.f_Bounded E.g_bounded sc_bounded (fun _ _ _ _ _ _ us hl => match us, hl with | [_, _, _], _ => rfl) (fun vs H Q Ex h => ?_) (fun cdv A outer s H vs Q Ex hr h => ?_)
  · obtain ⟨F, g, v, a, b, rfl, _⟩ := h
    rfl
  · obtain ⟨F, g, v, fa, fb, rfl, s0, hg, Wg, sm, k⟩ := h
    refine ⟨_, (pss_cons (ps_set (i := 3) sc_bounded.nd rfl (.inl rfl) pe_dnewT)
      (pss_cons (ps_lock (ps_for PassesOwn.never rfl (pi_keys (pv 0)) (pg_name (i := 4) sc_bounded.nd rfl (.inl rfl))
        (pss_cons (ps_set (i := 5) sc_bounded.nd rfl (.inl rfl) (pe_dget (hu_of hr) (pv 0) (pv 4) (fun _ _ => rfl)))
        (pss_one (ps_dput (hu_of hr) (pv 3) (pv 4) (by exact pe_lc (own := [("tag", 6), ("target", 7)]) rfl sc_bounded.nd (pi_listK (K := K) rfl (pv 5)) (blkOk_by (N := ["edges", "first", "second", "found", "node", "rows", "tag", "target"]) (sc := defScope sBounded) (by decide +kernel)) (fun _ _ _ _ _ => (pg_tupK (K := K) (n := 2) rfl rfl (pgs_cons (pg_name (i := 6) sc_bounded.nd rfl (.inl rfl)) (pgs_cons (pg_name (i := 7) sc_bounded.nd rfl (.inl rfl)) pgs_nil)))) (fun _ _ _ _ _ => pts_one (PW.pt (pw_and (pt_cmpR op_le (pe_ix (ix_tupK (K := K) rfl) (pv 6) pe_int (fun _ _ => rfl)) (pv 1) (nomark _)) (pw_and1 (pt_cmpR op_le (pe_ix (ix_tupK (K := K) rfl) (pv 6) pe_int (fun _ _ => rfl)) (pv 2) (nomark _)))))) (fun _ _ _ _ _ => (pe_tup (pa_cons (pv 6) (pa_cons (pv 7) pa_nil))))) rfl)))))
      (pss_one (ps_ret (pv 3))))), ?_⟩
    obtain ⟨a, l, rfl, hF, hk, hn, hp⟩ := id hg
    have W0 := Wr.start s0
    have hkeys : l.map (·.1) = keys g := by rw [hk, map_fst_pG]
    have hll : l.length = g.length := by have := congrArg List.length hkeys; simpa using this
    have hgl : g.length ≤ cap g := by unfold cap; omega
    refine w_seq (w_newD (N := Int × Int) W0 fun Dd H1 W1 => ?_)
    refine w_seq (w_fill (jd := 0) (Dd := Dd) W1 rfl hF rfl (by rw [hkeys]; exact Wg.nd) (by omega) (fun _ => true) (fun n => pEs ((adj g n).filter fun e => decide (e.1.2.1 ≤ fa) && decide (e.1.2.2 ≤ fb))) (fun _ => inferInstance)
      (fun σ => ∃ x4 x5, σ = [some (.ref a), some (.int fa), some (.int fb), some (.ref Dd), x4, x5, none, none]) ⟨_, _, rfl⟩ ?_ ?_)
    · rintro n v σ' F' H' k kvs hn sF ⟨x4, x5, rfl⟩ W2 hnd hnd2 hz D' _ hD
      rw [hkeys] at hn
      have hgF : pG g F' (.ref a) := (inferInstance : Mn (pG g)).mn sF hg
      refine w_seq (w_set W2 (ev_adj (ev_var rfl inferInstance hgF) (ev_var rfl inferInstance hnd) hn) fun vr F3 H3 g3 W3 hr3 => ?_)
      have hae : (adj g n).length ≤ 100000 := Nat.le_trans (adj_cap Wg.nd hn) (by omega)
      refine w_dput W3 (j := 0) (P := pEs ((adj g n).filter fun e => decide (e.1.2.1 ≤ fa) && decide (e.1.2.2 ≤ fb))) rfl hnd2 hz (ev_varV rfl) (ev_var rfl inferInstance ((inferInstance : Mn (Nd.nd n)).mn g3.fx hnd))
        (ev_lc (q := pE) (ei_list (f := pE) (k := none) (xs := adj g n) (ev_var rfl inferInstance hr3) fun _ => inferInstance) (fun _ _ _ z => by cases z) hae (fun _ => inferInstance) fun e ve F5 H5 _ g5 s5 he Q5 hQ5 => ?_) inferInstance fun vl F4 H4 g4 W4 hl4 => ?_
      · refine tg_tup2 s5 he fun v1 v2 h1 h2 => hQ5 _ rfl (et_and (et_test (ev_op (ev_op (ev_var rfl inferInstance h1) ev_c inferInstance (op_ixT (by rfl))) (ev_varV rfl) inferInstance op_I0)) fun _ => et_test (ev_op (ev_op (ev_var rfl inferInstance h1) ev_c inferInstance (op_ixT (by rfl))) (ev_varV rfl) inferInstance op_I0)) fun _ => ev_tup (ea_cons (ev_var rfl inferInstance h1) inferInstance (ea_cons (ev_var rfl inferInstance h2) inferInstance ea_nil)) inferInstance
      · exact hD rfl _ F4 _ vl ⟨_, _, rfl⟩ (g3.fx.trans g4.fx) hl4 W4
    · rintro σ' F' H' kvs ⟨x4, x5, rfl⟩ sF W2 hk2 hp2
      rw [hkeys] at hk2 hp2
      obtain ⟨W3, s3⟩ := W2.frz (j := 0) rfl (fun od u z => by
        have := ndPair.dct kvs
        rw [z] at this
        cases this)
      refine w_ret W3 (ev_varV rfl) fun v F4 H4 g4 W4 e => ?_
      obtain rfl : v = _ := e
      refine k _ F4 H4 W4.gr ((inferInstance : Mn (pG (bnd g fa fb))).mn g4.fx (pG_of Wg.nd upd_same hk2 ((mnl_map (fun _ => inferInstance) _).mn s3 hp2)))
end
end EL

set_option Elab.async false
set_option linter.all false
set_option maxRecDepth 100000
set_option maxHeartbeats 1000000
/-! breadth first search, in plain terms -/
namespace EL
open PySem PySem.Spec PyProof.Rows L2
section
variable {N : Type} [DecidableEq N] {g : Gph N}
structure Bf (g : Gph N) (x : N) (came : List (N × Option (N × Tag))) (line : List N) (cur : Option N) (j : Nat) : Prop where
  nd : (came.map (·.1)).Nodup
  sub : ∀ n ∈ came.map (·.1), n ∈ keys g
  beg : x ∈ came.map (·.1)
  lin : ∀ n ∈ line, n ∈ keys g
  cls : ∀ n ∈ came.map (·.1), n ∈ line ∨ (∀ e ∈ adj g n, e.2 ∈ came.map (·.1)) ∨ cur = some n
  cu : ∀ n, cur = some n → n ∈ came.map (·.1) ∧ ∀ (i : Nat) (e : Tag × N), i < j → (adj g n)[i]? = some e → e.2 ∈ came.map (·.1)
  back : ∀ (i : Nat) (n u : N) (t : Tag), came[i]? = some (n, some (u, t)) → (∃ i', i' < i ∧ (came.map (·.1))[i']? = some u) ∧ (t, n) ∈ adj g u
  li : ∀ n ∈ line, n ∈ came.map (·.1)
def bm (g : Gph N) (came : List (N × Option (N × Tag))) (line : List N) : Nat := 2 * (g.length - came.length) + line.length
variable {x : N} {came : List (N × Option (N × Tag))} {line : List N} {n : N} {j : Nat}
theorem Bf.start (hx : x ∈ keys g) : Bf g x [(x, none)] [x] none 0 where
  nd := by simp
  sub := fun n h => by simp at h; rw [h]; exact hx
  beg := by simp
  lin := fun n h => by simp at h; rw [h]; exact hx
  cls := fun n h => by simp at h; simp [h]
  cu := fun n h => by cases h
  back := fun i n u t h => by
    cases i with
    | zero => simp at h
    | succ i => simp at h
  li := fun n h => by simp at h; simp [h]
theorem Bf.len (B : Bf g x came line cur j) : came.length ≤ g.length := by
  have := nd_len B.nd B.sub
  simpa [keys] using this
theorem Bf.ne {y : N} (B : Bf g x came [] none 0) (r : Rch g x y) (hy : y ∉ came.map (·.1)) : False := by
  obtain ⟨u, v, hu, hv, ⟨t, he⟩, _⟩ := r.exit (S := fun n => n ∈ came.map (·.1)) (fun n => Decidable.em _) B.beg hy
  rcases B.cls u hu with h | h | h
  · cases h
  · exact hv (h _ he)
  · cases h
theorem Bf.pop (B : Bf g x came (n :: line) none 0) : Bf g x came line (some n) 0 where
  nd := B.nd
  sub := B.sub
  beg := B.beg
  lin := fun m h => B.lin m (List.mem_cons_of_mem _ h)
  cls := fun m h => by
    rcases B.cls m h with h | h | h
    · rcases List.mem_cons.mp h with e | h
      · exact .inr (.inr (by rw [e]))
      · exact .inl h
    · exact .inr (.inl h)
    · cases h
  cu := fun m e => by cases e; exact ⟨B.li n List.mem_cons_self, fun i e h => absurd h (Nat.not_lt_zero _)⟩
  back := B.back
  li := fun m h => B.li m (List.mem_cons_of_mem _ h)
theorem Bf.old {t : Tag} {v : N} (B : Bf g x came line (some n) j) (h : (adj g n)[j]? = some (t, v)) (hv : v ∈ came.map (·.1)) : Bf g x came line (some n) (j + 1) where
  nd := B.nd
  sub := B.sub
  beg := B.beg
  lin := B.lin
  cls := B.cls
  cu := fun m e => by
    cases e
    refine ⟨(B.cu n rfl).1, fun i e hi he => ?_⟩
    rcases Nat.lt_succ_iff_lt_or_eq.mp hi with hi | hi
    · exact (B.cu n rfl).2 i e hi he
    · subst hi
      rw [h] at he
      cases he
      exact hv
  back := B.back
  li := B.li
theorem Bf.add (W : Wf g) {t : Tag} {v : N} (B : Bf g x came line (some n) j) (h : (adj g n)[j]? = some (t, v)) (hv : v ∉ came.map (·.1)) : Bf g x (came ++ [(v, some (n, t))]) (line ++ [v]) (some n) (j + 1) := by
  have hm : (t, v) ∈ adj g n := List.mem_of_getElem? h
  have hvk : v ∈ keys g := W.cl n v ⟨t, hm⟩
  have hk : (came ++ [(v, some (n, t))]).map (·.1) = came.map (·.1) ++ [v] := by simp
  have up : ∀ m, m ∈ came.map (·.1) → m ∈ (came ++ [(v, some (n, t))]).map (·.1) := fun m h => by rw [hk]; exact List.mem_append_left _ h
  refine ⟨?_, fun m hm => ?_, up _ B.beg, fun m hm => ?_, fun m hm => ?_, fun m e => ?_, fun i m u t' hi => ?_, fun m hm => ?_⟩
  · rw [hk]; exact nd_snoc B.nd hv
  · rw [hk] at hm
    rcases List.mem_append.mp hm with z | z
    · exact B.sub m z
    · simp at z; rw [z]; exact hvk
  · rcases List.mem_append.mp hm with z | z
    · exact B.lin m z
    · simp at z; rw [z]; exact hvk
  · rw [hk] at hm
    rcases List.mem_append.mp hm with z | z
    · rcases B.cls m z with z | z | z
      · exact .inl (List.mem_append_left _ z)
      · exact .inr (.inl fun e he => up _ (z e he))
      · exact .inr (.inr z)
    · simp at z; exact .inl (by rw [z]; simp)
  · cases e
    refine ⟨up _ (B.cu n rfl).1, fun i e hi he => ?_⟩
    rcases Nat.lt_succ_iff_lt_or_eq.mp hi with hi | hi
    · exact up _ ((B.cu n rfl).2 i e hi he)
    · subst hi
      rw [h] at he
      cases he
      rw [hk]; simp
  · rw [List.getElem?_append] at hi
    split at hi
    · rename_i lt
      obtain ⟨⟨i', h1, h2⟩, h3⟩ := B.back i m u t' hi
      refine ⟨⟨i', h1, ?_⟩, h3⟩
      rw [hk, List.getElem?_append_left (by rw [List.length_map]; omega)]
      exact h2
    · rename_i ge
      cases q : i - came.length with
      | zero =>
        rw [q] at hi
        cases hi
        obtain ⟨i', h2⟩ := List.getElem?_of_mem (B.cu n rfl).1
        have lt := (List.getElem?_eq_some_iff.mp h2).1
        rw [List.length_map] at lt
        refine ⟨⟨i', by omega, ?_⟩, hm⟩
        rw [hk, List.getElem?_append_left (by rw [List.length_map]; omega)]
        exact h2
      | succ k => rw [q] at hi; simp at hi
  · rcases List.mem_append.mp hm with z | z
    · exact up _ (B.li m z)
    · simp at z; rw [z, hk]; simp
theorem Bf.done (B : Bf g x came line (some n) (adj g n).length) : Bf g x came line none 0 where
  nd := B.nd
  sub := B.sub
  beg := B.beg
  lin := B.lin
  cls := fun m h => by
    rcases B.cls m h with h | h | h
    · exact .inl h
    · exact .inr (.inl h)
    · obtain rfl : n = m := Option.some.inj h
      refine .inr (.inl fun e he => ?_)
      obtain ⟨i, hi⟩ := List.getElem?_of_mem he
      exact (B.cu n rfl).2 i e (List.getElem?_eq_some_iff.mp hi).1 hi
  cu := fun m h => by cases h
  back := B.back
  li := B.li
/-- a walk back has reached u by ts, from came's place i down -/
def PathOk (g : Gph N) (ts : List Tag) : Prop := ts.length ≤ g.length ∧ ∀ t ∈ ts, ∃ u v, (t, v) ∈ adj g u
end
end EL

set_option Elab.async false
set_option linter.all false
set_option maxRecDepth 100000
set_option maxHeartbeats 2000000
namespace EL
open PySem PySem.Spec PyProof.Rows L2
section
variable {K : PySem.W.Frag} {F0 H0 F H : Hp} {L : List (Addr × HO)} {σ : L2.St} {D : Ends} {k : Lk} {tk tv te : TE} {P Pe : Pr}
/-- x, y = {k: v}, [e] -/
theorem w_parDisp {N : Type} [DecidableEq N] [nn : Nd N] {n : N} {i j : Nat} (W : Wr F0 H0 L F H k) (hk : EvP tk σ F H (Nd.nd n)) (hv : EvP tv σ F H P) (mP : Mn P) (he : EvP te σ F H Pe)
    (c : ∀ p q v w F1 H1, Same F F1 → Wr F0 H0 ((q, .lst [w]) :: (p, Nd.dic [(n, v)]) :: L) F1 H1 k → P F1 v → Pe F1 w → D.nx ((σ.set i (some (.ref p))).set j (some (.ref q))) H1) :
    tPar i j (tCons (tDisp1 (Nd.dic ([] : List (N × V))) tk tv) (tCons (tLst (tCons te tNil)) tNil)) D σ H := fun p hp => by
  have W1 := W.new hp (isDct_notTup (nn.dct []))
  refine hk _ _ (Gr.new hp) W1.sub _ fun x F2 H2 g2 px => ?_
  have W2 := W1.gro g2
  refine hv _ _ ((Gr.new hp).trans g2) W2.sub _ fun y F3 H3 g3 py => ?_
  have W3 := W2.gro g3
  have dp := nn.put (n := n) (y := y) (W3.at (j := 0) rfl) (by simp) W3.sub ((nn.mnd n).mn g3.fx px) (Nat.lt_of_le_of_lt (Nat.zero_le _) (by decide : 0 < sizeLine))
  refine ⟨_, dp, ?_⟩
  have W4 : Wr F0 H0 ((p, Nd.dic [(n, y)]) :: L) F3 (upd H3 p (Nd.dic [(n, y)])) k := W3.set (j := 0) rfl (isDct_notTup (nn.dct _))
  have s3 : Same F F3 := (g2.trans g3).fx
  -- the entry's heap is the old one's, but for p
  have g4 : Gr F H F3 (upd H3 p (Nd.dic [(n, y)])) := by
    have gg := ((Gr.new (F := F) (H := H) (o := Nd.dic ([] : List (N × V))) hp).trans g2).trans g3
    have f3 : F3 p = none := W4.f (j := 0) rfl
    refine ⟨fun a o e => ?_, gg.fx, fun a o e1 e2 => ?_⟩
    · rw [upd_ne (fun z => by rw [z, hp] at e; cases e)]
      exact gg.ex _ _ e
    · have z : a ≠ p := fun z => by rw [z, f3] at e2; cases e2
      obtain ⟨n1, n2⟩ := (g2.trans g3).nw a o e1 e2
      rw [upd_ne z] at n2 ⊢
      exact ⟨n1, n2⟩
  refine he _ _ g4 W4.sub _ fun w F5 H5 g5 pw => ?_
  refine ⟨(by decide : 1 ≤ sizeLine), fun q hq => ⟨_, _, rfl, c p q y w F5 _ (s3.trans g5.fx) ((W4.gro g5).new hq rfl) (mP.mn g5.fx py) pw⟩⟩
/-- x, y = [], e -/
theorem w_parLV {i j : Nat} (W : Wr F0 H0 L F H k) (he : EvP te σ F H P) (c : ∀ q v F1 H1, Same F F1 → Wr F0 H0 ((q, .lst []) :: L) F1 H1 k → P F1 v → D.nx ((σ.set i (some (.ref q))).set j (some v)) H1) :
    tPar i j (tCons (tLst tNil) (tCons te tNil)) D σ H := ⟨Nat.zero_le _, fun p hp => by
  have W1 := W.new (o := .lst []) hp rfl
  refine he _ _ (Gr.new hp) W1.sub _ fun v F2 H2 g2 pv => ⟨_, _, rfl, c p v F2 H2 g2.fx (W1.gro g2) pv⟩⟩
theorem ev_rev {Ps : List Pr} (h : EvP te σ F H (isLst Ps)) (m : MnL Ps) (hz : Ps.length ≤ 100000) : EvP (tRevL K te) σ F H (isLst Ps.reverse) := fun F1 H1 g s Q q =>
  h F1 H1 g s _ fun v F2 H2 g2 ⟨a, vs, e, hF, hp⟩ => by
    have s2 := s.gr g2
    refine ⟨a, vs, e, SqL.of (s2.lst hF), fun p hp' => ?_⟩
    have f := s2.free hp'
    exact q _ _ _ (g2.trans (Gr.newF hp' f)) ⟨p, vs.reverse, rfl, upd_same, m.mn (same_new f) hp |>.reverse⟩
end
def pO (o : Option ((Int × Int) × Tag)) : Pr := match o with
  | none => isV .non
  | some (u, t) => isTup [Nd.nd u, pTag t]
instance {o : Option ((Int × Int) × Tag)} : Mn (pO o) := by
  cases o with
  | none => show Mn (isV _); infer_instance
  | some p => obtain ⟨u, t⟩ := p; show Mn (isTup _); infer_instance
def spPB : Sp := fun vs H Q _ => ∃ (F : Hp) (g : Gph (Int × Int)) (v vx vy : V) (x y : Int × Int), vs = [v, vx, vy] ∧ Same F H ∧ pG g F v ∧ Wf g ∧ cap g ≤ 10000 ∧ x ∈ keys g ∧ Nd.nd x F vx ∧ Nd.nd y F vy ∧ Rch g x y ∧
  Ret F H (isEx (fun ts : List Tag => isLst (ts.map pTag)) (PathOk g)) Q
theorem sc_path_between : FnScope ["edges", "begin", "end", "came", "line", "node", "tag", "target", "tags"] ["edges", "begin", "end"] (defScope sPathBetween) := ⟨rfl, rfl, rfl, by decide +kernel, rfl, by decide +kernel, by decide +kernel⟩
section
variable {P : Program} {w : World} {K : PySem.W.Frag} {mg : Str → Option Value} {base : Heap}
theorem ok_path_between (E : Tops K mg) : Cal P w K mg base 1 "path_between" ["edges", "begin", "end"] spPB := by
  refine Cal.of E.f_PathBetween E.g_path_between sc_path_between (fun _ _ _ _ _ _ us hl => match us, hl with | [_, _, _], _ => rfl) (fun vs H Q Ex h => ?_) (fun cdv A outer s H vs Q Ex hr h => ?_)
  · obtain ⟨F, g, v, vx, vy, x, y, rfl, _⟩ := h
    rfl
  · obtain ⟨F, g, v, vx, vy, x, y, rfl, s0, hg, Wg, sm, hx, hvx, hvy, hxy, k⟩ := h
    refine ⟨_, (pss_cons (ps_par (i := 3) (j := 4) (by rfl) sc_path_between.nd rfl rfl (by decide) rfl rfl (pa_cons (pe_disp1 (nn := ndPair) (hu_of hr) (pv 1) pe_non) (pa_cons (pe_lst (pa_cons (pv 1) pa_nil)) pa_nil)) (by rfl))
      (pss_cons (ps_while PassesOwn.never (pt_cmp (pc_dnotin (hu_of hr) (pv 2) (pv 3)))
        (pss_cons (ps_set (i := 5) sc_path_between.nd rfl (.inl rfl) (pe_bmK (K := K) rfl PySem.F.plainAttrs_list PySem.F.slot_list_pop PySem.F.type_list_pop mt_popAt (pv 4) (pa_cons pe_int pa_nil)))
        (pss_one (ps_for PassesOwn.never rfl (pi_listK (K := K) rfl (pe_dget (hu_of hr) (pv 0) (pv 5) (fun _ _ => rfl))) (pg_tupK (K := K) (n := 2) rfl rfl (pgs_cons (pg_name (i := 6) sc_path_between.nd rfl (.inl rfl)) (pgs_cons (pg_name (i := 7) sc_path_between.nd rfl (.inl rfl)) pgs_nil)))
          (pss_one (ps_if (pt_cmp (pc_dnotin (hu_of hr) (pv 7) (pv 3)))
            (pss_cons (ps_dput (hu_of hr) (pv 3) (pv 7) (pe_tup (pa_cons (pv 5) (pa_cons (pv 6) pa_nil))) rfl)
            (pss_one (ps_expr (pe_bmK (K := K) rfl PySem.F.plainAttrs_list PySem.F.slot_list_append PySem.F.type_list_append mt_append (pv 4) (pa_cons (pv 7) pa_nil)))))
            pss_nil))))))
      (pss_cons (ps_par (i := 8) (j := 5) (by rfl) sc_path_between.nd rfl rfl (by decide) rfl rfl (pa_cons (pe_lst pa_nil) (pa_cons (pv 2) pa_nil)) (by rfl))
      (pss_cons (ps_while PassesOwn.never (pt_cmpR op_notN (pe_dget (hu_of hr) (pv 3) (pv 5) (fun _ _ => rfl)) pe_non (nomark _))
        (pss_cons (ps_asg (pe_dget (hu_of hr) (pv 3) (pv 5) (fun _ _ => rfl)) (pg_tupK (K := K) (n := 2) rfl rfl (pgs_cons (pg_name (i := 5) sc_path_between.nd rfl (.inl rfl)) (pgs_cons (pg_name (i := 6) sc_path_between.nd rfl (.inl rfl)) pgs_nil))))
        (pss_one (ps_expr (pe_bmK (K := K) rfl PySem.F.plainAttrs_list PySem.F.slot_list_append PySem.F.type_list_append mt_append (pv 8) (pa_cons (pv 6) pa_nil))))))
      (pss_one (ps_ret (pe_revLK (K := K) rfl (pv 8)))))))), ?_⟩
    obtain ⟨a, l, rfl, hF, hk, hn, hp⟩ := id hg
    have W0 := Wr.start s0
    have hgl : g.length ≤ cap g := by unfold cap; omega
    refine w_seq (w_parDisp (n := x) (P := isV .non) (Pe := Nd.nd x) W0 (ev_var rfl inferInstance hvx) ev_c inferInstance (ev_var rfl inferInstance hvx) fun pc pl vn vx1 F1 H1 s1 W1 hvn hvx1 => ?_)
    obtain rfl : vn = .non := hvn
    -- while end not in came
    refine w_seq (w_while (fun m σ' F' H' => ∃ (came : List ((Int × Int) × Option ((Int × Int) × Tag))) (kvs : List ((Int × Int) × V)) (line : List (Int × Int)) (vl : List V) (x5 x6 x7 : Option V), σ' = [some (.ref a), some vx, some vy, some (.ref pc), some (.ref pl), x5, x6, x7, none] ∧
      m = bm g came line ∧ bm g came line ≤ 2 * g.length ∧ Same F F' ∧ Wr F H [(pl, .lst vl), (pc, Nd.dic kvs)] F' H' none ∧ kvs.map (·.1) = came.map (·.1) ∧ PrL F' (came.map fun p => pO p.2) (kvs.map (·.2)) ∧ PrL F' (line.map Nd.nd) vl ∧ Bf g x came line none 0)
      W1.sub _ ⟨[(x, none)], [(x, .non)], [x], [vx1], none, none, none, rfl, rfl, ?_, s1, W1, rfl, .one (show pO none F1 .non from rfl), .one hvx1, Bf.start hx⟩ ?_)
    · have := (Bf.start hx).len
      unfold bm
      simp at this ⊢
      omega
    rintro m σ' F' H' sb ⟨came, kvs, line, vl, x5, x6, x7, rfl, rfl, hbd, sF, W2, hck, hcv, hlv, B⟩
    have hvyF : Nd.nd y F' vy := (inferInstance : Mn (Nd.nd y)).mn sF hvy
    refine ⟨_, et_B (ev_dninO (W2.at (j := 1) rfl) (ev_var rfl inferInstance hvyF) (ev_varV rfl)), fun hb F3 H3 g3 => ?_, fun hb F3 H3 g3 => ?_⟩
    · -- a turn
      have W3 := W2.gro g3
      have hny : y ∉ came.map (·.1) := by
        rw [← hck]
        intro z
        obtain ⟨w, hw⟩ := luk_some z
        rw [hw] at hb
        cases hb
      cases line with
      | nil => exact (B.ne hxy hny).elim
      | cons n line =>
        cases hlv with
        | @cons _ _ vn vl hvn hlv =>
        refine w_seq (w_pop0 W3 (j := 0) rfl rfl fun W4 => ?_)
        have B1 := B.pop
        have hnk : n ∈ keys g := B.lin n List.mem_cons_self
        have hvn3 : Nd.nd n F3 vn := (inferInstance : Mn (Nd.nd n)).mn g3.fx hvn
        have hgF : pG g F3 (.ref a) := (inferInstance : Mn (pG g)).mn (sF.trans g3.fx) hg
        have hlen := B.len
        have hbd1 : bm g came line + 1 ≤ bm g came (n :: line) := by
          unfold bm
          rw [List.length_cons]
          omega
        refine w_forLm (f := pE) (xs := adj g n) W4 (ev_adj (ev_var rfl inferInstance hgF) (ev_var rfl inferInstance hvn3) hnk) (fun _ => inferInstance) fun F5 H5 g5 W5 => ?_
        refine ⟨fun j σ'' F'' H'' => ∃ (came2 : List ((Int × Int) × Option ((Int × Int) × Tag))) (kvs2 : List ((Int × Int) × V)) (line2 : List (Int × Int)) (vl2 : List V) (x6 x7 : Option V), σ'' = [some (.ref a), some vx, some vy, some (.ref pc), some (.ref pl), some vn, x6, x7, none] ∧
          bm g came2 line2 ≤ bm g came line ∧ Wr F H [(pl, .lst vl2), (pc, Nd.dic kvs2)] F'' H'' none ∧ kvs2.map (·.1) = came2.map (·.1) ∧ PrL F'' (came2.map fun p => pO p.2) (kvs2.map (·.2)) ∧ PrL F'' (line2.map Nd.nd) vl2 ∧ Bf g x came2 line2 (some n) j,
          ⟨came, kvs, line, vl, x6, x7, rfl, Nat.le_refl _, W5, hck, (mnl_map (fun _ => inferInstance) _).mn (g3.fx.trans g5.fx) hcv, (mnl_map (fun _ => inferInstance) _).mn (g3.fx.trans g5.fx) hlv, B1⟩, ?_, ?_⟩
        · rintro j ⟨t, u⟩ ve σ'' F'' H'' hj hve sF5 ⟨came2, kvs2, line2, vl2, x6, x7, rfl, hbm, W6, hck2, hcv2, hlv2, B2⟩
          refine tg_tup2 W6.sub hve fun vt vu hvt hvu => ?_
          have hvu : Nd.nd u F'' vu := hvu
          refine w_if W6 (et_B (ev_dninO (W6.at (j := 1) rfl) (ev_var rfl inferInstance hvu) (ev_varV rfl))) (fun hb F7 H7 g7 W7 => ?_) (fun hb F7 H7 g7 W7 => ?_)
          · have hnu : u ∉ came2.map (·.1) := by
              rw [← hck2]
              intro z
              obtain ⟨w, hw⟩ := luk_some z
              rw [hw] at hb
              cases hb
            have B3 := B2.add Wg hj hnu
            have hl3 := B3.len
            rw [List.length_append, List.length_singleton] at hl3
            have hkl : kvs2.length = came2.length := by have := congrArg List.length hck2; simpa using this
            have hvn7 : Nd.nd n F7 vn := (inferInstance : Mn (Nd.nd n)).mn ((g5.fx.trans sF5).trans g7.fx) hvn3
            have hvu7 : Nd.nd u F7 vu := (inferInstance : Mn (Nd.nd u)).mn g7.fx hvu
            have hvt7 : pTag t F7 vt := (inferInstance : Mn (pTag t)).mn g7.fx hvt
            refine w_seq (w_dput W7 (j := 1) (n := u) rfl (by rw [hck2]; exact B2.nd) (by omega) (ev_varV rfl) (ev_var rfl inferInstance hvu7) (ev_tup (Ps := [Nd.nd n, pTag t]) (ea_cons (ev_var rfl inferInstance hvn7) inferInstance (ea_cons (ev_var rfl inferInstance hvt7) inferInstance ea_nil)) inferInstance) inferInstance fun vp F8 H8 g8 W8 hvp => ?_)
            rw [put_new vp (luk_none.mpr (by rw [hck2]; exact hnu))] at W8 ⊢
            have hll : vl2.length ≤ 2 * g.length := by
              have h1 := hlv2.length
              rw [List.length_map] at h1
              have h2 : line2.length ≤ bm g came2 line2 := by unfold bm; omega
              omega
            refine w_app W8 (j := 0) (P := Nd.nd u) rfl (ev_varV rfl) (ev_var rfl inferInstance ((inferInstance : Mn (Nd.nd u)).mn g8.fx hvu7)) (by omega) fun vu9 F9 H9 g9 W9 hvu9 => ?_
            refine ⟨F9, ((sF5.trans g7.fx).trans g8.fx).trans g9.fx, W9.sub, came2 ++ [(u, some (n, t))], kvs2 ++ [(u, vp)], line2 ++ [u], vl2 ++ [vu9], _, _, rfl, ?_, W9, ?_, ?_, ?_, B3⟩
            · unfold bm at hbm ⊢
              rw [List.length_append, List.length_append, List.length_singleton, List.length_singleton]
              omega
            · rw [List.map_append, List.map_append, hck2]; rfl
            · rw [List.map_append, List.map_append]
              exact ((mnl_map (fun _ => inferInstance) _).mn ((g7.fx.trans g8.fx).trans g9.fx) hcv2).append (.one ((inferInstance : Mn (pO (some (n, t)))).mn g9.fx hvp))
            · rw [List.map_append]
              exact ((mnl_map (fun _ => inferInstance) _).mn ((g7.fx.trans g8.fx).trans g9.fx) hlv2).append (.one hvu9)
          · have hiu : u ∈ came2.map (·.1) := by
              rw [← hck2]
              cases q : luk kvs2 u with
              | none => rw [q] at hb; cases hb
              | some w => exact luk_key q
            exact ⟨F7, sF5.trans g7.fx, W7.sub, came2, kvs2, line2, vl2, _, _, rfl, hbm, W7, hck2, (mnl_map (fun _ => inferInstance) _).mn g7.fx hcv2, (mnl_map (fun _ => inferInstance) _).mn g7.fx hlv2, B2.old hj hiu⟩
        · rintro σ'' F'' H'' sF5 ⟨came2, kvs2, line2, vl2, x6, x7, rfl, hbm, W6, hck2, hcv2, hlv2, B2⟩
          refine ⟨_, F'', ?_, W6.sub, came2, kvs2, line2, vl2, _, _, _, rfl, rfl, ?_, ((sF.trans g3.fx).trans g5.fx).trans sF5, W6, hck2, hcv2, hlv2, B2.done⟩
          · omega
          · omega
    · -- tags, node = [], end
      have W3 := W2.gro g3
      have hyc : y ∈ came.map (·.1) := by
        rw [← hck]
        cases q : luk kvs y with
        | none => rw [q] at hb; cases hb
        | some w => exact luk_key q
      have hvy3 : Nd.nd y F3 vy := (inferInstance : Mn (Nd.nd y)).mn g3.fx hvyF
      have hcv3 := (mnl_map (fun _ => inferInstance) _ : MnL (came.map fun p => pO p.2)).mn g3.fx hcv
      refine w_seq (w_parLV W3 (ev_var (P := Nd.nd y) rfl inferInstance hvy3) fun q vn F4 H4 s4 W4 hvn4 => ?_)
      -- what a read of came gives
      have rd : ∀ {F' : Hp} {i : Nat} {n : Int × Int}, Same F3 F' → (came.map (·.1))[i]? = some n → ∃ (o : Option ((Int × Int) × Tag)) (w : V), came[i]? = some (n, o) ∧ luk kvs n = some w ∧ pO o F' w := by
        intro F' i n s hi
        rw [List.getElem?_map] at hi
        cases e1 : came[i]? with
        | none => rw [e1] at hi; cases hi
        | some p =>
          rw [e1] at hi
          obtain ⟨n', o⟩ := p
          obtain rfl : n' = n := Option.some.inj hi
          have e2 : (kvs.map (·.1))[i]? = some n' := by rw [hck, List.getElem?_map, e1]; rfl
          rw [List.getElem?_map] at e2
          cases e3 : kvs[i]? with
          | none => rw [e3] at e2; cases e2
          | some q =>
            rw [e3] at e2
            obtain ⟨n2, w⟩ := q
            obtain rfl : n2 = n' := Option.some.inj e2
            obtain ⟨w', h1, h2⟩ := hcv3.get (i := i) (P := pO o) (by rw [List.getElem?_map, e1]; rfl)
            rw [List.getElem?_map, e3] at h1
            obtain rfl : w = w' := Option.some.inj h1
            exact ⟨o, w, rfl, luk_at (by rw [hck]; exact B.nd) e3, (inferInstance : Mn (pO o)).mn s h2⟩
      obtain ⟨iy, hiy⟩ := List.getElem?_of_mem hyc
      refine w_seq (w_while (fun m σ' F' H' => ∃ (n : Int × Int) (vn : V) (ts : List Tag) (vt : List V) (x6 x7 : Option V), σ' = [some (.ref a), some vx, some vy, some (.ref pc), some (.ref pl), some vn, x6, x7, some (.ref q)] ∧ (came.map (·.1))[m]? = some n ∧ Nd.nd n F' vn ∧
        Same F3 F' ∧ Wr F H [(q, .lst vt), (pl, .lst vl), (pc, Nd.dic kvs)] F' H' none ∧ PrL F' (ts.map pTag) vt ∧ ts.length + m + 1 ≤ g.length ∧ ∀ t ∈ ts, ∃ u v, (t, v) ∈ adj g u) W4.sub iy ⟨y, vn, [], [], x6, x7, rfl, hiy, hvn4, s4, W4, .nil, ?_, fun t h => by cases h⟩ ?_)
      · have h1 := B.len
        have h2 := (List.getElem?_eq_some_iff.mp hiy).1
        rw [List.length_map] at h2
        simp
        omega
      · rintro m σ' F' H' sb ⟨n, vn, ts, vt, x6, x7, rfl, him, hvn, sF3, W5, hts, hlen, htg⟩
        obtain ⟨o, w, ho, hw, hpo⟩ := rd sF3 him
        refine ⟨!decide (w = .non), et_test (ev_op (ev_dgetO (W5.at (j := 2) rfl) (ev_varV rfl) (ev_var rfl inferInstance hvn) hw) ev_c inferInstance op_notN'), fun hb F6 H6 g6 => ?_, fun hb F6 H6 g6 => ?_⟩
        · have W6 := W5.gro g6
          cases o with
          | none =>
            obtain rfl : w = .non := hpo
            cases hb
          | some p =>
            obtain ⟨u, t⟩ := p
            obtain ⟨⟨i', hi', hiu⟩, hmem⟩ := B.back m n u t ho
            have hpo6 : pO (some (u, t)) F6 w := (inferInstance : Mn (pO (some (u, t)))).mn g6.fx hpo
            have hvn6 : Nd.nd n F6 vn := (inferInstance : Mn (Nd.nd n)).mn g6.fx hvn
            refine w_seq (w_asg (P := isV w) W6 (ev_dgetO (W6.at (j := 2) rfl) (ev_varV rfl) (ev_var rfl inferInstance hvn6) hw) fun v7 F7 H7 g7 W7 e7 => ?_)
            obtain rfl : v7 = w := e7
            have hpo7 : isTup [Nd.nd u, pTag t] F7 v7 := (inferInstance : Mn (pO (some (u, t)))).mn g7.fx hpo6
            refine tg_tup2 W7.sub hpo7 fun vu vt' hvu hvt => ?_
            have hvu : Nd.nd u F7 vu := hvu
            have hvl : vt.length = ts.length := by have := hts.length; simpa using this
            refine w_app W7 (j := 0) (P := pTag t) rfl (ev_varV rfl) (ev_var rfl inferInstance hvt) (by omega) fun v8 F8 H8 g8 W8 hv8 => ?_
            refine ⟨i', F8, hi', W8.sub, u, vu, ts ++ [t], vt ++ [v8], _, _, rfl, hiu, (inferInstance : Mn (Nd.nd u)).mn g8.fx hvu, ((sF3.trans g6.fx).trans g7.fx).trans g8.fx, W8, ?_, ?_, ?_⟩
            · rw [List.map_append]
              exact ((mnl_map (fun _ => inferInstance) _).mn ((g6.fx.trans g7.fx).trans g8.fx) hts).append (.one hv8)
            · rw [List.length_append, List.length_singleton]; omega
            · intro t' ht'
              rcases List.mem_append.mp ht' with z | z
              · exact htg t' z
              · simp at z; rw [z]; exact ⟨u, n, hmem⟩
        · have W6 := W5.gro g6
          obtain ⟨W7, s7⟩ := W6.frz (j := 0) rfl (fun od u z => by cases z)
          have hl7 : isLst (ts.map pTag) (upd F6 q (.lst vt)) (.ref q) := ⟨q, vt, rfl, upd_same, (mnl_map (fun _ => inferInstance) _).mn (g6.fx.trans s7) hts⟩
          refine w_ret W7 (ev_rev (ev_var (P := isLst (ts.map pTag)) rfl inferInstance hl7) inferInstance (by rw [List.length_map]; omega)) fun v8 F8 H8 g8 W8 hv8 => ?_
          refine k v8 F8 H8 W8.gr ⟨ts.reverse, ⟨by rw [List.length_reverse]; omega, fun t ht => htg t (List.mem_reverse.mp ht)⟩, ?_⟩
          show isLst (ts.reverse.map pTag) F8 v8
          rw [List.map_reverse]
          exact hv8
end
end EL

set_option Elab.async false
set_option linter.all false
set_option maxRecDepth 100000
set_option maxHeartbeats 2000000
namespace EL
open PySem PySem.Spec PyProof.Rows L2
section
variable {K : PySem.W.Frag} {σ : L2.St} {F H : Hp} {Ps : List Pr} {R : Pr} {ta : TA} {te tb : TE} {sp : Sp}
/-- a call while something is locked -/
theorem ev_callS (h : EvA ta σ F H Ps) (hs : ∀ F1 H1 vs Q, Gr F H F1 H1 → Sub F1 H1 → PrL F1 Ps vs → Ret F1 H1 R Q → sp vs H1 Q E0) : EvP (tCall sp [] E0 ta) σ F H R := fun F1 H1 g s Q q =>
  h F1 H1 g s _ fun vs F2 H2 g2 ps => by
    rw [List.append_nil]
    exact hs F2 H2 vs Q (g.trans g2) (s.gr g2) ps fun v F3 H3 g3 p => q v F3 H3 (g2.trans g3) p
/-- a list of tags of which C holds -/
def pTs (C : List Tag → Prop) : Pr := isEx (fun ts : List Tag => isLst (ts.map pTag)) C
instance {C : List Tag → Prop} : Mn (pTs C) := by unfold pTs; infer_instance
theorem op_catT {A B C : List Tag → Prop} (h : ∀ a b, A a → B b → C (a ++ b) ∧ a.length + b.length ≤ 100000) : OpP rCat (pTs A) (pTs B) (pTs C) F H := fun F1 H1 x y g s ⟨a, ca, hx⟩ ⟨b, cb, hy⟩ Q q => by
  obtain ⟨h1, h2⟩ := h a b ca cb
  refine op_cat (by rw [List.length_map, List.length_map]; exact h2) (mnl_map (fun _ => inferInstance) _) (mnl_map (fun _ => inferInstance) _) F1 H1 x y g s hx hy Q fun v F2 H2 g2 hv => q v F2 H2 g2 ⟨a ++ b, h1, by rw [← List.map_append] at hv; exact hv⟩
end
def TsOk {N : Type} [DecidableEq N] (g : Gph N) (n : Nat) (ts : List Tag) : Prop := ts.length ≤ n ∧ ∀ t ∈ ts, ∃ u v, (t, v) ∈ adj g u
section
variable {N : Type} [DecidableEq N] {g : Gph N} {part : List (N × Int)} {c : Int}
/-- the part numbered c -/
def comp (g : Gph N) (part : List (N × Int)) (c : Int) : Gph N := sub g (fun n => decide (luk part n = some c)) fun e => decide (luk part e.2 = some c)
theorem PartOk.at (P : PartOk g part) {n : N} (h : n ∈ keys g) : ∃ a, luk part n = some a := luk_some ((P.all n).mpr h)
theorem comp_wf (W : Wf g) : Wf (comp g part c) := by
  refine ⟨by rw [comp, keys_sub]; exact W.nd.filter _, fun u v ⟨t, h⟩ => ?_⟩
  have hu : u ∈ keys (comp g part c) := Ed.key ⟨t, h⟩
  rw [comp, keys_sub] at hu ⊢
  obtain ⟨hu1, hu2⟩ := List.mem_filter.mp hu
  rw [comp, adj_sub (nc := fun n => decide (luk part n = some c)) hu2] at h
  obtain ⟨h1, h2⟩ := List.mem_filter.mp h
  exact List.mem_filter.mpr ⟨W.cl u v ⟨t, h1⟩, h2⟩
theorem comp_adj {u : N} (h : luk part u = some c) : adj (comp g part c) u = (adj g u).filter fun e => decide (luk part e.2 = some c) := adj_sub (nc := fun n => decide (luk part n = some c)) (by simp [h])
theorem comp_mem {u v : N} {t : Tag} (h : (t, v) ∈ adj (comp g part c) u) : (t, v) ∈ adj g u ∧ luk part u = some c ∧ luk part v = some c := by
  have hu : u ∈ keys (comp g part c) := Ed.key ⟨t, h⟩
  rw [comp, keys_sub] at hu
  have hu2 := (List.mem_filter.mp hu).2
  rw [comp, adj_sub (nc := fun n => decide (luk part n = some c)) hu2] at h
  obtain ⟨h1, h2⟩ := List.mem_filter.mp h
  exact ⟨h1, by simpa using hu2, by simpa using h2⟩
theorem comp_rch (P : PartOk g part) (W : Wf g) {u v : N} (hr : Rch g u v) (hb : Rch g v u) (hu : luk part u = some c) : Rch (comp g part c) u v := by
  induction hr with
  | refl => exact .refl _
  | @step u w v e r ih =>
    have cw : Co g u w := ⟨.one e, r.trans hb⟩
    obtain ⟨a, ha⟩ := P.at (W.cl _ _ e)
    have : c = a := (P.co u w c a hu ha).mpr cw
    rw [← this] at ha
    obtain ⟨t, ht⟩ := e
    refine .step ⟨t, ?_⟩ (ih (hb.trans (.one ⟨t, ht⟩)) ha)
    rw [comp_adj hu]
    exact List.mem_filter.mpr ⟨ht, by rw [ha]; simp⟩
theorem sub_cap (nc : N → Bool) (f : Tag × N → Bool) : ∀ g : Gph N, cap (sub g nc f) ≤ cap g
  | [] => Nat.le_refl _
  | p :: r => by
    have ih := sub_cap nc f r
    have hf := List.length_filter_le f p.2
    unfold cap sub at ih ⊢
    rw [List.filter_cons]
    split
    · rw [List.map_cons]
      show (if p.1 ∈ [] then 0 else 2 * (p.2.filter f).length + 2) + wgt [] _ + (_ + 1) ≤ (if p.1 ∈ [] then 0 else 2 * p.2.length + 2) + wgt [] r + (r.length + 1)
      rw [if_neg (by simp), if_neg (by simp)]
      omega
    · show _ ≤ (if p.1 ∈ [] then 0 else 2 * p.2.length + 2) + wgt [] r + (r.length + 1)
      omega
theorem sub_len (nc : N → Bool) (f : Tag × N → Bool) (g : Gph N) : (sub g nc f).length ≤ g.length := by
  unfold sub
  rw [List.length_map]
  exact List.length_filter_le _ _
end
/-! passes -/
def tgx (t : Tag) (i : Nat) : Int := if i = 1 then t.2.1 else t.2.2
def pTst (p : Nat × Int) : Pr := isTup [isV (.int (p.1 : Int)), isV (.int p.2)]
instance {p : Nat × Int} : Mn (pTst p) := by unfold pTst; infer_instance
def spPs : Sp := fun vs H Q _ => ∃ (F : Hp) (t : Tag) (p : Nat × Int) (vt vp : V), vs = [vt, vp] ∧ Sub F H ∧ pTag t F vt ∧ pTst p F vp ∧ (p.1 = 1 ∨ p.1 = 2) ∧ Ret F H (isV (.bl (decide (tgx t p.1 = p.2)))) Q
theorem sc_passes : FnScope ["tag", "test"] ["tag", "test"] (defScope sPasses) := ⟨rfl, rfl, rfl, by decide +kernel, rfl, by decide +kernel, by decide +kernel⟩
section
variable {P : Program} {w : World} {K : PySem.W.Frag} {mg : Str → Option Value} {base : Heap}
theorem ok_passes (E : Tops K mg) : Cal P w K mg base 1 "passes" ["tag", "test"] spPs := by
  refine Cal.of E.f_Passes E.g_passes sc_passes (fun _ _ _ _ _ _ us hl => match us, hl with | [_, _], _ => rfl) (fun vs H Q Ex h => ?_) (fun cdv A outer s H vs Q Ex hr h => ?_)
  · obtain ⟨F, t, p, vt, vp, rfl, _⟩ := h
    rfl
  · obtain ⟨F, t, p, vt, vp, rfl, s0, ht, hp, hi, k⟩ := h
    refine ⟨_, (pss_one (ps_ret (pe_or (pe_cmpR op_isN (pv 1) pe_non (nomark _)) (pe_one (pe_cmpR op_eq (pe_ix (ix_tupK (K := K) rfl) (pv 0) (pe_ix (ix_tupK (K := K) rfl) (pv 1) pe_int (fun _ _ => rfl)) (fun _ _ => rfl)) (pe_ix (ix_tupK (K := K) rfl) (pv 1) pe_int (fun _ _ => rfl)) (nomark _)))))), ?_⟩
    have e1 : EvP (tOp (fun x y H Q => y = .non ∧ Q (.bl (decide (x = .non))) H) (tVar 1) (tC .non)) (start ["tag", "test"] [vt, vp]) F H (isV (.bl false)) := by
      obtain ⟨a, vs, rfl, ha, _⟩ := id hp
      exact ev_op (ev_varV rfl) ev_c inferInstance op_isN'
    have e2 : EvP (tOp (rIxT K) (tVar 0) (tOp (rIxT K) (tVar 1) (tC (.int 0)))) (start ["tag", "test"] [vt, vp]) F H (isV (.int (tgx t p.1))) := by
      refine ev_op (Pb := isV (.int (p.1 : Int))) (ev_var (P := pTag t) rfl inferInstance ht) (ev_op (ev_var (P := pTst p) rfl inferInstance hp) ev_c inferInstance (op_ixT (by rfl))) inferInstance ?_
      rcases hi with e | e
      · rw [e]; exact op_ixT (by rfl)
      · rw [e]; exact op_ixT (by rfl)
    refine (ev_orV (a := false) (b := decide (tgx t p.1 = p.2)) e1 fun _ => ?_) F H Gr.refl s0 _ fun v F2 H2 g2 e => k v F2 H2 g2 e
    refine (ev_op e2 (ev_op (ev_var (P := pTst p) rfl inferInstance hp) ev_c inferInstance (op_ixT (by rfl))) inferInstance (op_Eq rfl)).is ?_
    congr 1
    by_cases z : tgx t p.1 = p.2
    · rw [decide_eq_true z, decide_eq_true (by rw [z])]
    · rw [decide_eq_false z, decide_eq_false (fun q => z (by injection q))]
end
/-! closed_walk -/
abbrev Pt := Int × Int
def pTr (p : Pt × Tag × Pt) : Pr := isTup [Nd.nd p.1, pTag p.2.1, Nd.nd p.2.2]
instance {p : Pt × Tag × Pt} : Mn (pTr p) := by unfold pTr; infer_instance
def pPart {N : Type} [DecidableEq N] [Nd N] (part : List (N × Int)) : Pr := isD (part.map fun p => (p.1, isV (.int p.2)))
instance {N : Type} [DecidableEq N] [Nd N] {part : List (N × Int)} : Mn (pPart part) := by
  unfold pPart
  have : MnL ((part.map fun p => (p.1, isV (.int p.2))).map (·.2)) := by
    rw [List.map_map]
    exact (mnl_map (f := fun p : N × Int => isV (.int p.2)) (fun _ => inferInstance) part)
  infer_instance
theorem ev_part {N : Type} [DecidableEq N] [Nd N] {σ : L2.St} {F H : Hp} {ta ty : TE} {part : List (N × Int)} {n : N} {c : Int} (hd : EvP ta σ F H (pPart part)) (hy : EvP ty σ F H (Nd.nd n)) (h : luk part n = some c) : EvP (tDGet ta ty) σ F H (isV (.int c)) :=
  ev_dget hd (inferInstance : Mn (pPart part)) hy ((luk_map (fun c => isV (.int c)) part n).trans (by rw [h]; rfl))
def spCW : Sp := fun vs H Q _ => ∃ (F : Hp) (g : Gph Pt) (part : List (Pt × Int)) (c : Int) (ch : List (Pt × Tag × Pt)) (v vp vc : V) (u0 : Pt) (r0 : Tag × Pt), vs = [v, vp, vc] ∧ Same F H ∧ pG g F v ∧ Wf g ∧ cap g ≤ 10000 ∧ pPart part F vp ∧ PartOk g part ∧ isLst (ch.map pTr) F vc ∧
  ch.head? = some (u0, r0) ∧ (∀ p ∈ ch, (p.2.1, p.2.2) ∈ adj g p.1 ∧ luk part p.1 = some c ∧ luk part p.2.2 = some c) ∧ ch.length ≤ 2 ∧ g.length ≤ 100 ∧
  Ret F H (isTup [Nd.nd u0, pTs fun ts => TsOk g 1000 ts ∧ ts ≠ []]) Q
theorem sc_closed_walk : FnScope ["edges", "part", "chosen", "begin", "number", "inside", "node", "tag", "target", "tags", "place", "source"] ["edges", "part", "chosen"] (defScope sClosedWalk) := ⟨rfl, rfl, rfl, by decide +kernel, rfl, by decide +kernel, by decide +kernel⟩
section
variable {P : Program} {w : World} {K : PySem.W.Frag} {mg : Str → Option Value} {base : Heap}
theorem ok_closed_walk (E : Tops K mg) : Cal P w K mg base 2 "closed_walk" ["edges", "part", "chosen"] spCW := by
  have c_path_between : Cal P w K mg base 1 "path_between" ["edges", "begin", "end"] spPB := ok_path_between E
  refine Cal.of E.f_ClosedWalk E.g_closed_walk sc_closed_walk (fun _ _ _ _ _ _ us hl => match us, hl with | [_, _, _], _ => rfl) (fun vs H Q Ex h => ?_) (fun cdv A outer s H vs Q Ex hr h => ?_)
  · obtain ⟨F, g, part, c, ch, v, vp, vc, u0, r0, rfl, _⟩ := h
    rfl
  · obtain ⟨F, g, part, c, ch, v, vp, vc, u0, r0, rfl, s0, hg, Wg, sm, hpa, hP, hch, hc0, hce, hc2, hgl, k⟩ := h
    refine ⟨_, (pss_cons (ps_set (i := 3) sc_closed_walk.nd rfl (.inl rfl) (pe_ix (ix_tupK (K := K) rfl) (pe_ix (ix_listK (K := K) rfl) (pv 2) pe_int (fun _ _ => rfl)) pe_int (fun _ _ => rfl)))
      (pss_cons (ps_set (i := 4) sc_closed_walk.nd rfl (.inr rfl) (pe_dget (hu_of hr) (pv 1) (pv 3) (fun _ _ => rfl)))
      (pss_cons (ps_set (i := 5) sc_closed_walk.nd rfl (.inl rfl) pe_dnewT)
      (pss_cons (ps_lock (ps_for PassesOwn.never rfl (pi_keys (pv 0)) (pg_name (i := 6) sc_closed_walk.nd rfl (.inl rfl))
        (pss_one (ps_if (pt_cmpR op_eq (pe_dget (hu_of hr) (pv 1) (pv 6) (fun _ _ => rfl)) (pv 4) (nomark _))
          (pss_one (ps_dput (hu_of hr) (pv 5) (pv 6) (by exact pe_lc (own := [("tag", 7), ("target", 8)]) rfl sc_closed_walk.nd (pi_listK (K := K) rfl (pe_dget (hu_of hr) (pv 0) (pv 6) (fun _ _ => rfl))) (blkOk_by (N := ["edges", "part", "chosen", "begin", "number", "inside", "node", "tag", "target", "tags", "place", "source"]) (sc := defScope sClosedWalk) (by decide +kernel)) (fun _ _ _ _ _ => (pg_tupK (K := K) (n := 2) rfl rfl (pgs_cons (pg_name (i := 7) sc_closed_walk.nd rfl (.inl rfl)) (pgs_cons (pg_name (i := 8) sc_closed_walk.nd rfl (.inl rfl)) pgs_nil)))) (fun _ _ _ _ _ => pts_one (pt_cmpR op_eq (pe_dget (hu_of hr) (pv 1) (pv 8) (fun _ _ => rfl)) (pv 4) (nomark _))) (fun _ _ _ _ _ => (pe_tup (pa_cons (pv 7) (pa_cons (pv 8) pa_nil))))) rfl))
          pss_nil))))
      (pss_cons (ps_par (i := 9) (j := 10) (by rfl) sc_closed_walk.nd rfl rfl (by decide) rfl rfl (pa_cons (pe_lst pa_nil) (pa_cons (pv 3) pa_nil)) (by rfl))
      (pss_cons (ps_for PassesOwn.never rfl (pi_listK (K := K) rfl (pv 2)) (pg_tupK (K := K) (n := 3) rfl rfl (pgs_cons (pg_name (i := 11) sc_closed_walk.nd rfl (.inl rfl)) (pgs_cons (pg_name (i := 7) sc_closed_walk.nd rfl (.inl rfl)) (pgs_cons (pg_name (i := 8) sc_closed_walk.nd rfl (.inl rfl)) pgs_nil))))
        (pss_cons (ps_set (i := 9) sc_closed_walk.nd rfl (.inl rfl) (pe_op L2.op_cat (pe_op L2.op_cat (pv 9) (pe_cal c_path_between (hr.mono (by decide)) rfl (pa_cons (pv 5) (pa_cons (pv 10) (pa_cons (pv 11) pa_nil))))) (pe_lst (pa_cons (pv 7) pa_nil))))
        (pss_one (ps_set (i := 10) sc_closed_walk.nd rfl (.inl rfl) (pv 8)))))
      (pss_one (ps_ret (pe_tup (pa_cons (pv 3) (pa_cons (pe_op L2.op_cat (pv 9) (pe_cal c_path_between (hr.mono (by decide)) rfl (pa_cons (pv 5) (pa_cons (pv 10) (pa_cons (pv 3) pa_nil))))) pa_nil))))))))))), ?_⟩
    obtain ⟨a, l, rfl, hF, hk, hn, hp⟩ := id hg
    obtain ⟨t0, w0⟩ := r0
    have W0 := Wr.start s0
    have hkeys : l.map (·.1) = keys g := by rw [hk, map_fst_pG]
    have hll : l.length = g.length := by have := congrArg List.length hkeys; simpa using this
    have h0 : ch[0]? = some (u0, t0, w0) := by rw [← List.head?_eq_getElem?]; exact hc0
    have hu0 := hce _ (List.mem_of_getElem? h0)
    have hu0k : u0 ∈ keys g := Ed.key ⟨t0, hu0.1⟩
    have hat : atI (ch.map pTr) 0 = some (pTr (u0, t0, w0)) := by
      have e1 : (ch.map pTr)[0]? = some (pTr (u0, t0, w0)) := by rw [List.getElem?_map, h0]; rfl
      exact atI_nat (j := 0) e1
    -- begin, number
    refine w_seq (w_set (P := Nd.nd u0) W0 (ev_op (Pa := pTr (u0, t0, w0)) (ev_op (ev_var (P := isLst (ch.map pTr)) rfl inferInstance hch) ev_c inferInstance (op_ixL hat)) ev_c inferInstance (op_ixT (by rfl))) fun vb F1 H1 g1 W1 hvb => ?_)
    have hpa1 := (inferInstance : Mn (pPart part)).mn g1.fx hpa
    refine w_seq (w_set W1 (ev_part (ev_var rfl inferInstance hpa1) (ev_var rfl inferInstance hvb) hu0.2.1) fun vnum F2 H2 g2 W2 e => ?_)
    obtain rfl : vnum = .int c := e
    have s2 := g1.fx.trans g2.fx
    -- inside
    refine w_seq (w_newD (N := Pt) W2 fun Dd H3 W3 => ?_)
    refine w_seq (w_fill (jd := 0) (Dd := Dd) W3 rfl (s2 _ _ hF) rfl (by rw [hkeys]; exact Wg.nd) (by omega) (fun n => decide (luk part n = some c)) (fun n => pEs ((adj g n).filter fun e => decide (luk part e.2 = some c))) (fun _ => inferInstance)
      (fun σ => ∃ x6, σ = [some (.ref a), some vp, some vc, some vb, some (.int c), some (.ref Dd), x6, none, none, none, none, none]) ⟨_, rfl⟩ ?_ ?_)
    · rintro n v σ' F' H' k kvs hn sF ⟨x6, rfl⟩ W4 hnd hnd2 hz D' hD1 hD2
      rw [hkeys] at hn
      obtain ⟨cn, hcn⟩ := hP.at hn
      have hgF : pG g F' (.ref a) := (inferInstance : Mn (pG g)).mn (s2.trans sF) hg
      have hpF : pPart part F' vp := (inferInstance : Mn (pPart part)).mn (s2.trans sF) hpa
      have hdc : decide (V.int cn = V.int c) = decide (luk part n = some c) := by
        rw [hcn]
        by_cases z : cn = c
        · rw [z]; simp
        · rw [decide_eq_false (fun q => z (by injection q)), decide_eq_false (fun q => z (by injection q))]
      refine w_if W4 (et_test ((ev_op (ev_part (ev_var rfl inferInstance hpF) (ev_var rfl inferInstance hnd) hcn) (ev_varV rfl) inferInstance (op_Eq rfl)).is (by rw [hdc]))) (fun hb F5 H5 g5 W5 => ?_) (fun hb F5 H5 g5 W5 => ?_)
      · have hae : (adj g n).length ≤ 100000 := Nat.le_trans (adj_cap Wg.nd hn) (by omega)
        have hg5 := (inferInstance : Mn (pG g)).mn g5.fx hgF
        have hp5 := (inferInstance : Mn (pPart part)).mn g5.fx hpF
        have hn5 := (inferInstance : Mn (Nd.nd n)).mn g5.fx hnd
        refine w_dput W5 (j := 0) (P := pEs ((adj g n).filter fun e => decide (luk part e.2 = some c))) rfl hnd2 hz (ev_varV rfl) (ev_var rfl inferInstance hn5)
          (ev_lc (q := pE) (ei_list (f := pE) (k := none) (xs := adj g n) (ev_adj (ev_var rfl inferInstance hg5) (ev_var rfl inferInstance hn5) hn) fun _ => inferInstance) (fun _ _ _ z => by cases z) hae (fun _ => inferInstance) fun e ve F6 H6 hm g6 s6 he Q6 hQ6 => ?_) inferInstance fun vl F7 H7 g7 W7 hl7 => ?_
        · obtain ⟨ce, hce2⟩ := hP.at (Wg.cl n e.2 ⟨e.1, hm⟩)
          have hde : decide (V.int ce = V.int c) = decide (luk part e.2 = some c) := by
            rw [hce2]
            by_cases z : ce = c
            · rw [z]; simp
            · rw [decide_eq_false (fun q => z (by injection q)), decide_eq_false (fun q => z (by injection q))]
          refine tg_tup2 s6 he fun v1 v2 h1 h2 => hQ6 _ rfl (et_test ((ev_op (ev_part (ev_var rfl inferInstance ((inferInstance : Mn (pPart part)).mn g6.fx hp5)) (ev_var (P := Nd.nd e.2) rfl inferInstance h2) hce2) (ev_varV rfl) inferInstance (op_Eq rfl)).is (by rw [hde]))) fun _ => ev_tup (ea_cons (ev_var rfl inferInstance h1) inferInstance (ea_cons (ev_var rfl inferInstance h2) inferInstance ea_nil)) inferInstance
        · exact hD2 hb _ F7 _ vl ⟨_, rfl⟩ (g5.fx.trans g7.fx) hl7 W7
      · exact hD1 hb _ F5 _ ⟨_, rfl⟩ g5.fx W5
    · rintro σ' F' H' kvs ⟨x6, rfl⟩ sF W4 hk2 hp2
      rw [hkeys] at hk2 hp2
      obtain ⟨W5, s5⟩ := W4.frz (j := 0) rfl (fun od u z => by
        have := ndPair.dct kvs
        rw [z] at this
        cases this)
      have hin : pG (comp g part c) (upd F' Dd (Nd.dic kvs)) (.ref Dd) := pG_of Wg.nd upd_same hk2 ((mnl_map (fun _ => inferInstance) _).mn s5 hp2)
      generalize upd F' Dd (Nd.dic kvs) = F5 at W5 s5 hin
      have s25 := (s2.trans sF).trans s5
      have hvb5 : Nd.nd u0 F5 vb := (inferInstance : Mn (Nd.nd u0)).mn ((g2.fx.trans sF).trans s5) hvb
      have Wc := comp_wf (part := part) (c := c) Wg
      have capc : cap (comp g part c) ≤ 10000 := Nat.le_trans (sub_cap _ _ g) sm
      have lenc : (comp g part c).length ≤ 100 := Nat.le_trans (sub_len _ _ g) hgl
      have inK : ∀ x, x ∈ keys g → luk part x = some c → x ∈ keys (comp g part c) := fun x h1 h2 => by
        rw [comp, keys_sub]
        exact List.mem_filter.mpr ⟨h1, by rw [h2]; simp⟩
      have conn : ∀ x y, x ∈ keys g → luk part x = some c → luk part y = some c → Rch (comp g part c) x y := fun x y h1 h2 h3 => by
        have co := (hP.co x y c c h2 h3).mp rfl
        exact comp_rch hP Wg co.1 co.2 h2
      -- a path inside
      have pb : ∀ {σ : L2.St} {F' H' : Hp} {i j l : Nat} {x y : Pt} {vx vy : V}, Same F' H' → Same F5 F' → σ[i]? = some (some (.ref Dd)) → σ[j]? = some (some vx) → σ[l]? = some (some vy) → Nd.nd x F' vx → Nd.nd y F' vy → x ∈ keys g → luk part x = some c → luk part y = some c →
          EvP (tCall spPB [] E0 (tCons (tVar i) (tCons (tVar j) (tCons (tVar l) tNil)))) σ F' H' (pTs (TsOk g 100)) := fun {σ F' H' i j l x y vx vy} sFH sF' hi hj hl hx hy hxk hxc hyc => by
        refine ev_call sFH (ea_cons (P := pG (comp g part c)) (ev_var hi inferInstance ((inferInstance : Mn (pG (comp g part c))).mn sF' hin)) inferInstance (ea_cons (P := Nd.nd x) (ev_var hj inferInstance hx) inferInstance (ea_cons (P := Nd.nd y) (ev_var hl inferInstance hy) inferInstance ea_nil))) fun F1 H1 vs Q g1 s1 hvs r1 => ?_
        cases hvs with
        | cons h1 hvs =>
          cases hvs with
          | cons h2 hvs =>
            cases hvs with
            | cons h3 hvs =>
              cases hvs
              refine ⟨F1, comp g part c, _, _, _, x, y, rfl, s1, h1, Wc, capc, inK x hxk hxc, h2, h3, conn x y hxk hxc hyc, fun v F2 H2 g2 ⟨ts, hts, hv⟩ => r1 v F2 H2 g2 ⟨ts, ⟨Nat.le_trans hts.1 lenc, fun t ht => ?_⟩, hv⟩⟩
              obtain ⟨u, v, hm⟩ := hts.2 t ht
              exact ⟨u, v, (comp_mem hm).1⟩
      -- tags, place = [], begin
      refine w_seq (w_parLV W5 (ev_var (P := Nd.nd u0) rfl inferInstance hvb5) fun q vpl F6 H6 s6 W6 hvpl => ?_)
      obtain ⟨W7, s7⟩ := W6.frz (j := 0) rfl (fun od u z => by cases z)
      have hq7 : pTs (fun ts => TsOk g (150 * 0) ts ∧ (0 ≠ 0 → ts ≠ [])) (upd F6 q (.lst [])) (.ref q) := ⟨[], ⟨⟨Nat.le_refl _, fun t ht => by cases ht⟩, fun z => absurd rfl z⟩, q, [], rfl, upd_same, .nil⟩
      generalize upd F6 q (.lst []) = F7 at W7 s7 hq7
      have hchF : isLst (ch.map pTr) F7 vc := (inferInstance : Mn (isLst (ch.map pTr))).mn ((s25.trans s6).trans s7) hch
      have hlen : ch.length ≤ 2 := hc2
      refine w_seq (w_forLm (f := pTr) (xs := ch) W7 (ev_var rfl inferInstance hchF) (fun _ => inferInstance) fun F8 H8 g8 W8 => ?_)
      refine ⟨fun i σ' F' H' => ∃ (vt vpl : V) (pl : Pt) (x7 x8 x11 : Option V), σ' = [some (.ref a), some vp, some vc, some vb, some (.int c), some (.ref Dd), x6, x7, x8, some vt, some vpl, x11] ∧ Wr F H [] F' H' none ∧
        pTs (fun ts => TsOk g (150 * i) ts ∧ (i ≠ 0 → ts ≠ [])) F' vt ∧ Nd.nd pl F' vpl ∧ pl ∈ keys g ∧ luk part pl = some c, ⟨_, vpl, u0, _, _, _, rfl, W8, (inferInstance : Mn (pTs _)).mn g8.fx hq7, (inferInstance : Mn (Nd.nd u0)).mn (s7.trans g8.fx) hvpl, hu0k, hu0.2.1⟩, ?_, ?_⟩
      · rintro i ⟨u, t, x⟩ ve σ'' F'' H'' hi hve sF8 ⟨vt, vpl, pl, x7, x8, x11, rfl, W9, hvt, hvpl, hplk, hplc⟩
        obtain ⟨hm1, hm2, hm3⟩ := hce _ (List.mem_of_getElem? hi)
        have hm1 : (t, x) ∈ adj g u := hm1
        have hm2 : luk part u = some c := hm2
        have hm3 : luk part x = some c := hm3
        refine tg_tup3 W9.sub hve fun vu vt2 vx hvu hvt2 hvx => ?_
        have hvu : Nd.nd u F'' vu := hvu
        have hvx : Nd.nd x F'' vx := hvx
        have hi2 : i < 2 := by have := (List.getElem?_eq_some_iff.mp hi).1; omega
        have hone : EvP (tLst (tCons (tVar 7) tNil)) [some (.ref a), some vp, some vc, some vb, some (.int c), some (.ref Dd), x6, some vt2, some vx, some vt, some vpl, some vu] F'' H'' (pTs fun ts => ts = [t]) := EvP.imp (ev_lst (Ps := [pTag t]) (ea_cons (ev_var rfl inferInstance hvt2) inferInstance ea_nil) inferInstance) fun F v h => ⟨[t], rfl, h⟩
        refine w_seq (w_set (P := pTs fun ts => TsOk g (150 * (i + 1)) ts ∧ (i + 1 ≠ 0 → ts ≠ [])) W9 (ev_op (Pa := pTs (TsOk g (150 * i + 100))) (Pb := pTs fun ts => ts = [t]) (ev_op (ev_var rfl inferInstance hvt) (pb W9.same (((s6.trans s7).trans g8.fx).trans sF8) rfl rfl rfl hvpl hvu hplk hplc hm2) inferInstance (op_catT fun x y hx hy => ?_)) hone inferInstance (op_catT fun x y hx hy => ?_)) fun vt3 F10 H10 g10 W10 hvt3 => ?_)
        · obtain ⟨hx1, hx2⟩ := hx.1
          obtain ⟨hy1, hy2⟩ := hy
          refine ⟨⟨by rw [List.length_append]; omega, fun t ht => (List.mem_append.mp ht).elim (hx2 t) (hy2 t)⟩, by omega⟩
        · obtain ⟨hx1, hx2⟩ := hx
          subst hy
          refine ⟨⟨⟨by rw [List.length_append, List.length_singleton]; omega, fun t' ht => (List.mem_append.mp ht).elim (hx2 t') fun z => ?_⟩, fun _ z => by simp at z⟩, by rw [List.length_singleton]; omega⟩
          rw [List.mem_singleton.mp z]
          exact ⟨u, _, hm1⟩
        · refine w_set W10 (ev_var (P := Nd.nd x) rfl inferInstance ((inferInstance : Mn (Nd.nd x)).mn g10.fx hvx)) fun vx2 F11 H11 g11 W11 hvx2 => ?_
          exact ⟨F11, (sF8.trans g10.fx).trans g11.fx, W11.sub, vt3, vx2, x, _, _, _, rfl, W11, (inferInstance : Mn (pTs _)).mn g11.fx hvt3, hvx2, Wg.cl u x ⟨t, hm1⟩, hm3⟩
      · rintro σ'' F'' H'' sF8 ⟨vt, vpl, pl, x7, x8, x11, rfl, W9, hvt, hvpl, hplk, hplc⟩
        have hvb9 : Nd.nd u0 F'' vb := (inferInstance : Mn (Nd.nd u0)).mn (((s6.trans s7).trans g8.fx).trans sF8) hvb5
        have hcl : ch.length ≠ 0 := fun z => by
          have := (List.getElem?_eq_some_iff.mp h0).1
          omega
        refine w_ret W9 (ev_tup (Ps := [Nd.nd u0, pTs fun ts => TsOk g 1000 ts ∧ ts ≠ []]) (ea_cons (ev_var rfl inferInstance hvb9) inferInstance (ea_cons (ev_op (ev_var rfl inferInstance hvt) (pb W9.same (((s6.trans s7).trans g8.fx).trans sF8) rfl rfl rfl hvpl hvb9 hplk hplc hu0.2.1) inferInstance (op_catT fun x y hx hy => ?_)) inferInstance ea_nil)) inferInstance) fun v F10 H10 g10 W10 hv => k v F10 H10 W10.gr hv
        obtain ⟨⟨hx1, hx2⟩, hx3⟩ := hx
        obtain ⟨hy1, hy2⟩ := hy
        refine ⟨⟨⟨by rw [List.length_append]; omega, fun t ht => (List.mem_append.mp ht).elim (hx2 t) (hy2 t)⟩, fun z => hx3 hcl (List.append_eq_nil_iff.mp z).1⟩, by omega⟩
end
end EL

set_option Elab.async false
set_option linter.all false
set_option maxRecDepth 100000
set_option maxHeartbeats 1000000
/-! what cycle_through finds, in plain terms; rules for it -/
namespace EL
open PySem PySem.Spec PyProof.Rows L2
structure FRow where
  c : Int
  a : Addr
  es : List (Int × (Pt × Tag × Pt))
  l : List (Int × V)
def FRow.k (r : FRow) : List Int := r.es.map (·.1)
def frK (r : FRow) : Int × V := (r.c, .ref r.a)
def frL (r : FRow) : Addr × HO := (r.a, ndInt.dic r.l)
structure FOk (F : Hp) (r : FRow) : Prop where
  ks : r.l.map (·.1) = r.k
  vs : PrL F (r.es.map fun e => pTr e.2) (r.l.map (·.2))
theorem FOk.mn {F F' : Hp} {r : FRow} (s : Same F F') (h : FOk F r) : FOk F' r := ⟨h.ks, (mnl_map (fun _ => inferInstance) _).mn s h.vs⟩
abbrev Tst := Nat × Int
structure Fnd (g : Gph Pt) (part : List (Pt × Int)) (ts : List Tst) (rows : List FRow) : Prop where
  nd : (rows.map (·.c)).Nodup
  kd : ∀ r ∈ rows, r.k.Nodup
  su : ∀ r ∈ rows, r.c ∈ part.map (·.2)
  so : ∀ r ∈ rows, ∀ k u t v, (k, (u, t, v)) ∈ r.es → (t, v) ∈ adj g u ∧ luk part u = some r.c ∧ luk part v = some r.c ∧ ∃ (i : Nat) (x : Tst), k = (i : Int) ∧ ts[i]? = some x ∧ tgx t x.1 = x.2
/-- the edges ahead of place j of node i are told -/
def Cmp (g : Gph Pt) (part : List (Pt × Int)) (ts : List Tst) (rows : List FRow) (i j : Nat) : Prop :=
  ∀ i' j' u es t v c, (i' < i ∨ (i' = i ∧ j' < j)) → g[i']? = some (u, es) → es[j']? = some (t, v) → luk part u = some c → luk part v = some c → ∃ r ∈ rows, r.c = c ∧ ∀ (m : Nat) (x : Tst), ts[m]? = some x → tgx t x.1 = x.2 → (m : Int) ∈ r.k
def Lew (rows rows' : List FRow) : Prop := ∀ r ∈ rows, ∃ r' ∈ rows', r'.c = r.c ∧ ∀ k ∈ r.k, k ∈ r'.k
theorem Lew.refl (rows : List FRow) : Lew rows rows := fun r h => ⟨r, h, rfl, fun _ z => z⟩
theorem Lew.trans {a b c : List FRow} (h : Lew a b) (k : Lew b c) : Lew a c := fun r hr => by
  obtain ⟨r1, h1, h2, h3⟩ := h r hr
  obtain ⟨r2, k1, k2, k3⟩ := k r1 h1
  exact ⟨r2, k1, k2.trans h2, fun x z => k3 x (h3 x z)⟩
section
variable {g : Gph Pt} {part : List (Pt × Int)} {ts : List Tst} {rows rows' : List FRow} {i j : Nat}
theorem Cmp.le (h : Cmp g part ts rows i j) (l : Lew rows rows') : Cmp g part ts rows' i j := fun i' j' u es t v c h1 h2 h3 h4 h5 => by
  obtain ⟨r, hr, e, hk⟩ := h i' j' u es t v c h1 h2 h3 h4 h5
  obtain ⟨r', hr', e', hk'⟩ := l r hr
  exact ⟨r', hr', e'.trans e, fun m x a b => hk' _ (hk m x a b)⟩
theorem Fnd.len (h : Fnd g part ts rows) : rows.length ≤ part.length := by
  have := nd_len h.nd (m := part.map (·.2)) fun x hx => by
    obtain ⟨r, hr, rfl⟩ := List.mem_map.mp hx
    exact h.su r hr
  simpa using this
theorem Fnd.kin (h : Fnd g part ts rows) {r : FRow} (hr : r ∈ rows) : ∀ k ∈ r.k, ∃ m : Nat, k = (m : Int) ∧ m < ts.length := fun k hk => by
  obtain ⟨⟨k', u, t, v⟩, he, rfl⟩ := List.mem_map.mp hk
  obtain ⟨_, _, _, m, x, e, hx, _⟩ := h.so r hr k' u t v he
  exact ⟨m, e, (List.getElem?_eq_some_iff.mp hx).1⟩
theorem Fnd.klen (h : Fnd g part ts rows) {r : FRow} (hr : r ∈ rows) : r.es.length ≤ ts.length := by
  have := nd_len (h.kd r hr) (m := (List.range ts.length).map fun m => ((m : Nat) : Int)) fun x hx => by
    obtain ⟨m, e, lt⟩ := h.kin hr x hx
    exact List.mem_map.mpr ⟨m, List.mem_range.mpr lt, e.symm⟩
  simpa [FRow.k] using this
/-- as many as the tests: all of them -/
theorem Fnd.all (h : Fnd g part ts rows) {r : FRow} (hr : r ∈ rows) (e : r.es.length = ts.length) {m : Nat} (hm : m < ts.length) : (m : Int) ∈ r.k := by
  by_cases z : (m : Int) ∈ r.k
  · exact z
  · have := nd_len (List.nodup_cons.mpr ⟨z, h.kd r hr⟩) (m := (List.range ts.length).map fun m => ((m : Nat) : Int)) fun x hx => by
      rcases List.mem_cons.mp hx with e | hx
      · rw [e]; exact List.mem_map.mpr ⟨m, List.mem_range.mpr hm, rfl⟩
      · obtain ⟨m, e, lt⟩ := h.kin hr x hx
        exact List.mem_map.mpr ⟨m, List.mem_range.mpr lt, e.symm⟩
    simp [FRow.k] at this
    omega
theorem Fnd.allOf (h : Fnd g part ts rows) {r : FRow} (hr : r ∈ rows) (e : ∀ m, m < ts.length → (m : Int) ∈ r.k) : r.es.length = ts.length := by
  refine Nat.le_antisymm (h.klen hr) ?_
  have nd : ((List.range ts.length).map fun m => ((m : Nat) : Int)).Nodup := by
    rw [List.nodup_iff_pairwise_ne, List.pairwise_map]
    exact List.nodup_range.imp fun h z => h (by omega)
  have := nd_len nd (m := r.k) fun x hx => by
    obtain ⟨m, hm, rfl⟩ := List.mem_map.mp hx
    exact e m (List.mem_range.mp hm)
  simpa [FRow.k] using this
theorem Fnd.new {c : Int} {p : Addr} (h : Fnd g part ts rows) (hc : c ∉ rows.map (·.c)) (hs : c ∈ part.map (·.2)) : Fnd g part ts (rows ++ [⟨c, p, [], []⟩]) ∧ Lew rows (rows ++ [⟨c, p, [], []⟩]) := by
  refine ⟨⟨?_, fun r hr => ?_, fun r hr => ?_, fun r hr => ?_⟩, fun r hr => ⟨r, List.mem_append_left _ hr, rfl, fun _ z => z⟩⟩
  · rw [List.map_append]; exact nd_snoc h.nd hc
  · rcases List.mem_append.mp hr with z | z
    · exact h.kd r z
    · rw [List.mem_singleton.mp z]; exact List.nodup_nil
  · rcases List.mem_append.mp hr with z | z
    · exact h.su r z
    · rw [List.mem_singleton.mp z]; exact hs
  · rcases List.mem_append.mp hr with z | z
    · exact h.so r z
    · rw [List.mem_singleton.mp z]; intro k u t v he; cases he
def FRow.add (r : FRow) (m : Int) (x : Pt × Tag × Pt) (v : V) : FRow := ⟨r.c, r.a, r.es ++ [(m, x)], r.l ++ [(m, v)]⟩
theorem set_c {q : Nat} {r : FRow} {m : Int} {x : Pt × Tag × Pt} {w : V} (hq : rows[q]? = some r) : (rows.set q (r.add m x w)).map (·.c) = rows.map (·.c) ∧ (rows.set q (r.add m x w)).map frK = rows.map frK := by
  refine ⟨List.ext_getElem? fun i => ?_, List.ext_getElem? fun i => ?_⟩
  all_goals
    rw [List.getElem?_map, List.getElem?_map, List.getElem?_set]
    split
    · rename_i e
      subst e
      rw [hq]
      split
      · rfl
      · rename_i z
        have := (List.getElem?_eq_some_iff.mp hq).1
        omega
    · rfl
theorem Fnd.add {q : Nat} {r : FRow} {m : Nat} {y : Tst} {u v : Pt} {t : Tag} {w : V} (h : Fnd g part ts rows) (hq : rows[q]? = some r) (hm : (m : Int) ∉ r.k) (hy : ts[m]? = some y) (ht : tgx t y.1 = y.2) (he : (t, v) ∈ adj g u) (hu : luk part u = some r.c) (hv : luk part v = some r.c) :
    Fnd g part ts (rows.set q (r.add m (u, t, v) w)) ∧ Lew rows (rows.set q (r.add m (u, t, v) w)) := by
  have hr := List.mem_of_getElem? hq
  have hlt := (List.getElem?_eq_some_iff.mp hq).1
  have mem : ∀ x ∈ rows.set q (r.add m (u, t, v) w), x ∈ rows ∨ x = r.add m (u, t, v) w := fun x hx => List.mem_or_eq_of_mem_set hx
  have hk : (r.add m (u, t, v) w).k = r.k ++ [(m : Int)] := by show (r.es ++ [((m : Int), (u, t, v))]).map (·.1) = _; rw [List.map_append]; rfl
  refine ⟨⟨?_, fun x hx => ?_, fun x hx => ?_, fun x hx => ?_⟩, fun x hx => ?_⟩
  · rw [(set_c hq).1]; exact h.nd
  · rcases mem x hx with z | z
    · exact h.kd x z
    · rw [z, hk]; exact nd_snoc (h.kd r hr) hm
  · rcases mem x hx with z | z
    · exact h.su x z
    · rw [z]; exact h.su r hr
  · rcases mem x hx with z | z
    · exact h.so x z
    · rw [z]
      intro k' u' t' v' he'
      rcases List.mem_append.mp he' with z2 | z2
      · exact h.so r hr k' u' t' v' z2
      · cases List.mem_singleton.mp z2
        exact ⟨he, hu, hv, m, y, rfl, hy, ht⟩
  · obtain ⟨i, hi⟩ := List.getElem?_of_mem hx
    by_cases e : q = i
    · subst e
      rw [hq] at hi
      cases hi
      refine ⟨r.add m (u, t, v) w, List.mem_of_getElem? (i := q) (by rw [List.getElem?_set_self hlt]), rfl, fun k z => ?_⟩
      rw [hk]
      exact List.mem_append_left _ z
    · exact ⟨x, List.mem_of_getElem? (i := i) (by rw [List.getElem?_set_ne e]; exact hi), rfl, fun _ z => z⟩
end
/-- both tests pass in one part -/
def Both (g : Gph Pt) (a b : Int) : Prop := ∃ u t v u' t' v', (t, v) ∈ adj g u ∧ Co g u v ∧ t.2.1 = a ∧ (t', v') ∈ adj g u' ∧ Co g u' v' ∧ t'.2.2 = b ∧ Co g u u'
section
variable {g : Gph Pt} {part : List (Pt × Int)} {rows : List FRow} {a b : Int}
theorem Fnd.both (h : Fnd g part [(1, a), (2, b)] rows) (P : PartOk g part) {r : FRow} (hr : r ∈ rows) (e : r.es.length = 2) : Both g a b := by
  have get : ∀ m : Nat, m < 2 → ∃ u t v, ((m : Int), (u, t, v)) ∈ r.es := fun m hm => by
    obtain ⟨⟨k, u, t, v⟩, he, e2⟩ := List.mem_map.mp (h.all hr e (m := m) (by show m < 2; exact hm))
    have e2 : k = (m : Int) := e2
    exact ⟨u, t, v, by rw [← e2]; exact he⟩
  obtain ⟨u, t, v, h0⟩ := get 0 (by omega)
  obtain ⟨u', t', v', h1⟩ := get 1 (by omega)
  obtain ⟨p1, p2, p3, m, x, p4, p5, p6⟩ := h.so r hr _ u t v h0
  obtain ⟨q1, q2, q3, m', x', q4, q5, q6⟩ := h.so r hr _ u' t' v' h1
  obtain rfl : m = 0 := by omega
  obtain rfl : m' = 1 := by omega
  cases p5
  cases q5
  exact ⟨u, t, v, u', t', v', p1, (P.co _ _ _ _ p2 p3).mp rfl, p6, q1, (P.co _ _ _ _ q2 q3).mp rfl, q6, (P.co _ _ _ _ p2 q2).mp rfl⟩
theorem Fnd.none (h : Fnd g part [(1, a), (2, b)] rows) (W : Wf g) (P : PartOk g part) (c : Cmp g part [(1, a), (2, b)] rows g.length 0) (no : ∀ r ∈ rows, r.es.length ≠ 2) : ¬ Both g a b := by
  rintro ⟨u, t, v, u', t', v', h1, h2, h3, k1, k2, k3, co⟩
  have row : ∀ {u t v} (c0 : Int), (t, v) ∈ adj g u → Co g u v → luk part u = some c0 → ∃ r ∈ rows, r.c = c0 ∧ ∀ (m : Nat) (x : Tst), [((1, a) : Tst), (2, b)][m]? = some x → tgx t x.1 = x.2 → (m : Int) ∈ r.k := fun {u t v} c0 he hc hu => by
    have huk : u ∈ keys g := Ed.key ⟨t, he⟩
    obtain ⟨es, hl⟩ := luk_some huk
    have ha : adj g u = es := by unfold adj; rw [hl]; rfl
    obtain ⟨i, hi⟩ := List.getElem?_of_mem (luk_mem hl)
    rw [ha] at he
    obtain ⟨j, hj⟩ := List.getElem?_of_mem he
    obtain ⟨cv, hcv⟩ := P.at (W.cl u v ⟨t, by rw [ha]; exact he⟩)
    have : c0 = cv := (P.co u v c0 cv hu hcv).mpr hc
    rw [← this] at hcv
    exact c i j u es t v c0 (.inl (List.getElem?_eq_some_iff.mp hi).1) hi hj hu hcv
  obtain ⟨c0, hc0⟩ := P.at (Ed.key ⟨t, h1⟩)
  obtain ⟨c1, hc1⟩ := P.at (Ed.key ⟨t', k1⟩)
  have e : c0 = c1 := (P.co u u' c0 c1 hc0 hc1).mpr co
  subst e
  obtain ⟨r, hr, e1, ks⟩ := row c0 h1 h2 hc0
  obtain ⟨r', hr', e1', ks'⟩ := row c0 k1 k2 hc1
  have : r = r' := by
    obtain ⟨i, hi⟩ := List.getElem?_of_mem hr
    obtain ⟨i', hi'⟩ := List.getElem?_of_mem hr'
    have e2 := nd_ix h.nd (x := c0) (i := i) (j := i') (by rw [List.getElem?_map, hi, ← e1]; rfl) (by rw [List.getElem?_map, hi', ← e1']; rfl)
    subst e2
    rw [hi] at hi'
    exact Option.some.inj hi'
  subst this
  refine no r hr (h.allOf hr fun m hm => ?_)
  have hm : m < 2 := hm
  rcases (show m = 0 ∨ m = 1 by omega) with z | z
  · subst z; exact ks 0 (1, a) rfl h3
  · subst z; exact ks' 1 (2, b) rfl k3
end

/-! rules -/
theorem Wr.perm {F0 H0 F H : Hp} {L M : List (Addr × HO)} {k : Lk} (W : Wr F0 H0 L F H k) (p : L.Perm M) : Wr F0 H0 M F H k :=
  ⟨W.gr, W.sm, W.lk, (p.map _).nodup_iff.mp W.nd, fun q hq => W.ow q (p.mem_iff.mpr hq)⟩
section
variable {K : PySem.W.Frag} {F0 H0 F H : Hp} {L : List (Addr × HO)} {σ : L2.St} {D : Ends} {k : Lk} {td ty te : TE} {P : Pr}
/-- x = d.setdefault(c, {}), d of one's own -/
theorem w_setd {i j : Nat} {Df : Addr} {l : List (Int × V)} {c : Int} (W : Wr F0 H0 L F H k) (hj : L[j]? = some (Df, ndInt.dic l)) (hn : (l.map (·.1)).Nodup) (hz : l.length < 100000) (hd : EvP td σ F H (isV (.ref Df))) (hy : EvP ty σ F H (isV (.int c)))
    (c1 : ∀ v F1 H1, luk l c = some v → Same F F1 → Wr F0 H0 L F1 H1 k → D.nx (σ.set i (some v)) H1)
    (c2 : ∀ p F1 H1, luk l c = none → Same F F1 → Wr F0 H0 ((p, ndInt.dic []) :: L.set j (Df, ndInt.dic (l ++ [(c, .ref p)]))) F1 H1 k → D.nx (σ.set i (some (.ref p))) H1) :
    tAsg (tDSetd td ty tDNewK) (gName i) D σ H :=
  hd F H Gr.refl W.sub _ fun x F1 H1 g1 e => by
    obtain rfl : x = .ref Df := e
    have W1 := W.gro g1
    refine ⟨Df, rfl, .inl ⟨_, .inl (W1.at hj)⟩, hy F1 H1 g1 W1.sub _ fun y F2 H2 g2 e => ?_⟩
    obtain rfl : y = .int c := e
    have W2 := W1.gro g2
    have s2 := g1.fx.trans g2.fx
    intro p hp
    have W3 := W2.new (o := ndInt.dic []) hp rfl
    have hj3 : ((p, ndInt.dic []) :: L)[j + 1]? = some (Df, ndInt.dic l) := hj
    have hat : upd H2 p (ndInt.dic []) Df = some (ndInt.dic l) := W3.at hj3
    refine ⟨(l.map fun p : Int × V => ((Sum.inl p.1 : Key), p.2) : List (Key × V)), Sum.inl c, hat, rfl, by rw [List.length_map]; exact Nat.lt_of_lt_of_le hz (by decide), fun v hv => ?_, fun hv => ?_⟩
    · rw [valV_luk, luk_enc _ fun _ _ h => Sum.inl.inj h] at hv
      exact c1 v F2 _ hv s2 (W3.drop 0)
    · rw [valV_luk, luk_enc _ fun _ _ h => Sum.inl.inj h] at hv
      have W4 := W3.set hj3 (u := ndInt.dic (l ++ [(c, .ref p)])) rfl
      have e : putK (l.map fun p => ((Sum.inl p.1 : Key), p.2)) (Sum.inl c) (V.ref p) = (l ++ [(c, V.ref p)]).map fun p => (Sum.inl p.1, p.2) := by
        rw [putK_putA (nodup_enc _ (fun _ _ h => Sum.inl.inj h) hn), putA_enc _ fun _ _ h => Sum.inl.inj h, put_new _ hv]
      rw [e]
      exact c2 p F2 _ hv s2 W4
/-- x, y = e, {} by a tuple -/
theorem w_tupXD {N : Type} [DecidableEq N] [nn : Nd N] {i j : Nat} (W : Wr F0 H0 L F H k) (h : EvP te σ F H P) (m : Mn P) (c : ∀ v p F1 H1, Same F F1 → Wr F0 H0 ((p, Nd.dic ([] : List (N × V))) :: L) F1 H1 k → P F1 v → D.nx ((σ.set i (some v)).set j (some (.ref p))) H1) :
    tAsg (tTup (tCons te (tCons nn.tnew tNil))) (gTup K 2 (gCons (gName i) (gCons (gName j) gNil))) D σ H :=
  h F H Gr.refl W.sub _ fun v F1 H1 g1 pv => nn.tnew_eq σ H1 _ fun p hp => by
    have W2 := (W.gro g1).new hp (isDct_notTup (nn.dct []))
    refine ⟨(by decide : 2 ≤ sizeLine), fun q hq => ?_⟩
    have W3 := W2.gro (Gr.new (o := .tup [v, .ref p]) hq)
    exact ⟨q, _, rfl, SqT.of upd_same, rfl, _, _, rfl, _, _, rfl, rfl, c v p F1 _ g1.fx W3 pv⟩
theorem w_tupXL {i j : Nat} (W : Wr F0 H0 L F H k) (h : EvP te σ F H P) (m : Mn P) (c : ∀ v p F1 H1, Same F F1 → Wr F0 H0 ((p, .lst []) :: L) F1 H1 k → P F1 v → D.nx ((σ.set i (some v)).set j (some (.ref p))) H1) :
    tAsg (tTup (tCons te (tCons (tLst tNil) tNil))) (gTup K 2 (gCons (gName i) (gCons (gName j) gNil))) D σ H :=
  h F H Gr.refl W.sub _ fun v F1 H1 g1 pv => ⟨Nat.zero_le _, fun p hp => by
    have W2 := (W.gro g1).new (o := .lst []) hp rfl
    refine ⟨(by decide : 2 ≤ sizeLine), fun q hq => ?_⟩
    have W3 := W2.gro (Gr.new (o := .tup [v, .ref p]) hq)
    exact ⟨q, _, rfl, SqT.of upd_same, rfl, _, _, rfl, _, _, rfl, rfl, c v p F1 _ g1.fx W3 pv⟩⟩
/-- sorted(d), len(d) of a frozen dict with ints as keys -/
theorem ca_sortedD {kps : List (Int × Pr)} (sm : Same F H) (hz : kps.length < 64) : CaP rSortedD [isD kps] (isEx (fun ns : List Int => isLst (ns.map fun n => isV (.int n))) fun ns => ns.Perm (kps.map (·.1))) F H := fun F1 H1 vs g s hp Q q => by
  cases hp with
  | cons h hp =>
    cases hp
    obtain ⟨a, l, rfl, ha, hk, hn, hv⟩ := h
    have hl : l.length = kps.length := by have := congrArg List.length hk; simpa using this
    refine ⟨a, l, rfl, (Gr.same sm g) _ _ ha, by omega, fun ns p pm np => ?_⟩
    have f := s.free np
    refine q _ _ _ (Gr.newF np f) ⟨ns, by rw [← hk]; exact pm, p, ns.map V.int, rfl, upd_same, ?_⟩
    have := PrL.of_isV (F := upd F1 p (.lst (ns.map V.int))) (ns.map V.int)
    rw [List.map_map] at this
    exact this
theorem ca_lenD {kps : List (Int × Pr)} (sm : Same F H) : CaP (fun xs H Q => ∃ a kvs, xs = [V.ref a] ∧ H a = some (.dK kvs) ∧ Q (.int kvs.length) H) [isD kps] (isV (.int kps.length)) F H := ca_val fun F1 H1 vs g s hp Q q => by
  cases hp with
  | cons h hp =>
    cases hp
    obtain ⟨a, l, rfl, ha, hk, hn, hv⟩ := h
    have hl : l.length = kps.length := by have := congrArg List.length hk; simpa using this
    refine ⟨a, (l.map fun p : Int × V => ((Sum.inl p.1 : Key), p.2) : List (Key × V)), rfl, (Gr.same sm g) _ _ ha, ?_⟩
    rw [List.length_map, hl]
    exact q
end
end EL

set_option Elab.async false
set_option linter.all false
set_option maxRecDepth 100000
set_option maxHeartbeats 4000000
namespace EL
open PySem PySem.Spec PyProof.Rows L2
section
variable {P : Program} {w : World} {K : PySem.W.Frag} {mg : Str → Option Value} {base : Heap}
/-- the tests of one edge -/
theorem w_tests {F0 H0 F H : Hp} {k : Lk} {g : Gph Pt} {part : List (Pt × Int)} {ts : List Tst} {Df a : Addr} {vt vp vn vtg vu : V} {x8 x9 : Option V} {rows : List FRow} {q : Nat} {r : FRow} {n u : Pt} {t : Tag} {D : Ends}
    (W : Wr F0 H0 ((Df, ndInt.dic (rows.map frK)) :: rows.map frL) F H k) (hfo : ∀ r ∈ rows, FOk F r) (hfd : Fnd g part ts rows) (hq : rows[q]? = some r) (hts : isLst (ts.map pTst) F vt) (ht12 : ∀ (m : Nat) (x : Tst), ts[m]? = some x → x.1 = 1 ∨ x.1 = 2) (htl : ts.length ≤ 1000)
    (hvt : pTag t F vtg) (hvn : Nd.nd n F vn) (hvu : Nd.nd u F vu) (hadj : (t, u) ∈ adj g n) (hn : luk part n = some r.c) (hu : luk part u = some r.c)
    (c : ∀ rows3 x8 x9 F3 H3, Lew rows rows3 → (∃ r' ∈ rows3, r'.c = r.c ∧ ∀ (m : Nat) (x : Tst), ts[m]? = some x → tgx t x.1 = x.2 → (m : Int) ∈ r'.k) → Same F F3 → Wr F0 H0 ((Df, ndInt.dic (rows3.map frK)) :: rows3.map frL) F3 H3 k → (∀ r ∈ rows3, FOk F3 r) → Fnd g part ts rows3 →
      D.nx [some (.ref a), some vt, some vp, some (.ref Df), some vn, some vtg, some vu, some (.ref r.a), x8, x9, none] H3) :
    tFor (iEnum K (tCons (tVar 1) tNil)) (gTup K 2 (gCons (gName 8) (gCons (gName 9) gNil))) (tIfS (tAnd (tB (tDNotIn (tVar 8) (tVar 7))) (tB (tCall spPs [] E0 (tCons (tVar 5) (tCons (tVar 9) tNil))))) (sDPut (tVar 7) (tVar 8) (tTup (tCons (tVar 4) (tCons (tVar 5) (tCons (tVar 6) tNil))))) tNext) D
      [some (.ref a), some vt, some vp, some (.ref Df), some vn, some vtg, some vu, some (.ref r.a), x8, x9, none] H := by
  refine w_forI (xs := ts) (Y := pIx pTst) W (ei_enum (f := pTst) (ea_cons (ev_var rfl inferInstance hts) inferInstance ea_nil) fun _ => inferInstance) fun F1 H1 g1 W1 => ?_
  refine ⟨fun i σ' F' H' => ∃ (rows3 : List FRow) (r' : FRow) (x8 x9 : Option V), σ' = [some (.ref a), some vt, some vp, some (.ref Df), some vn, some vtg, some vu, some (.ref r.a), x8, x9, none] ∧ Lew rows rows3 ∧ rows3[q]? = some r' ∧ r'.c = r.c ∧ r'.a = r.a ∧
    (∀ (m : Nat) (x : Tst), m < i → ts[m]? = some x → tgx t x.1 = x.2 → (m : Int) ∈ r'.k) ∧ Wr F0 H0 ((Df, ndInt.dic (rows3.map frK)) :: rows3.map frL) F' H' k ∧ (∀ r ∈ rows3, FOk F' r) ∧ Fnd g part ts rows3,
    ⟨rows, r, x8, x9, rfl, Lew.refl _, hq, rfl, rfl, fun m x h => absurd h (Nat.not_lt_zero _), W1, fun r hr => (hfo r hr).mn g1.fx, hfd⟩, ?_, ?_⟩
  · rintro i x vx σ' F' F2 H' H2 hi sF ⟨rows3, r', x8, x9, rfl, hle, hq', hc', ha', hdone, W2, hfo2, hfd2⟩ g2 hvx
    have W3 := W2.gro g2
    refine tg_tup2 W3.sub hvx fun vi vx2 hvi hvx2 => ?_
    obtain rfl : vi = .int (i : Int) := hvi
    have hvx2 : pTst x F2 vx2 := hvx2
    have s2 := (g1.fx.trans sF).trans g2.fx
    have hvt2 : pTag t F2 vtg := (inferInstance : Mn (pTag t)).mn s2 hvt
    have hr' : r' ∈ rows3 := List.mem_of_getElem? hq'
    have hL : ((Df, ndInt.dic (rows3.map frK)) :: rows3.map frL)[q + 1]? = some (r.a, ndInt.dic r'.l) := by
      rw [List.getElem?_cons_succ, List.getElem?_map, hq', ← ha']; rfl
    have hfo3 : ∀ r ∈ rows3, FOk F2 r := fun r hr => (hfo2 r hr).mn g2.fx
    have h12 := ht12 i x hi
    have step : ∀ {b : Bool}, b = (!(luk r'.l (i : Int)).isSome && decide (tgx t x.1 = x.2)) → EvT (tAnd (tB (tDNotIn (tVar 8) (tVar 7))) (tB (tCall spPs [] E0 (tCons (tVar 5) (tCons (tVar 9) tNil))))) [some (.ref a), some vt, some vp, some (.ref Df), some vn, some vtg, some vu, some (.ref r.a), some (.int (i : Int)), some vx2, none] F2 H2 b := by
      rintro b rfl
      refine et_and (et_B (ev_dninO (N := Int) (n := (i : Int)) (W3.at hL) (ev_varV rfl) (ev_varV rfl))) fun _ => et_B (ev_callS (ea_cons (P := pTag t) (ev_var rfl inferInstance hvt2) inferInstance (ea_cons (P := pTst x) (ev_var rfl inferInstance hvx2) inferInstance ea_nil)) fun F4 H4 vs Q g4 s4 hvs r4 => ?_)
      cases hvs with
      | cons h1 hvs =>
        cases hvs with
        | cons h2 hvs =>
          cases hvs
          exact ⟨F4, t, x, _, _, rfl, s4, h1, h2, h12, r4⟩
    have hkk : ∀ z : Int, (luk r'.l z).isSome = decide (z ∈ r'.k) := fun z => by
      have e := (hfo3 r' hr').ks
      cases q : luk r'.l z with
      | none =>
        have := luk_none.mp q
        rw [e] at this
        rw [decide_eq_false this]; rfl
      | some v =>
        have := luk_key q
        rw [e] at this
        rw [decide_eq_true this]; rfl
    refine w_if W3 (step rfl) (fun hb F4 H4 g4 W4 => ?_) (fun hb F4 H4 g4 W4 => ?_)
    · rw [Bool.and_eq_true, hkk] at hb
      obtain ⟨hb1, hb2⟩ := hb
      have hnk : (i : Int) ∉ r'.k := by
        intro z
        rw [decide_eq_true z] at hb1
        cases hb1
      have htx : tgx t x.1 = x.2 := of_decide_eq_true hb2
      have s4 := s2.trans g4.fx
      have hk2 := (hfo3 r' hr').ks
      have hkl : r'.l.length < 100000 := by
        have h1 := hfd2.klen hr'
        have h2 : r'.l.length = r'.k.length := by rw [← hk2, List.length_map]
        have h3 : r'.k.length = r'.es.length := by unfold FRow.k; rw [List.length_map]
        omega
      refine w_dput (N := Int) W4 (j := q + 1) (d := r.a) (l := r'.l) (n := (i : Int)) (P := pTr (n, t, u)) hL (by rw [hk2]; exact hfd2.kd r' hr') hkl (ev_varV rfl) (ev_varV rfl)
        (ev_tup (Ps := [Nd.nd n, pTag t, Nd.nd u]) (ea_cons (ev_var rfl inferInstance ((inferInstance : Mn (Nd.nd n)).mn s4 hvn)) inferInstance (ea_cons (ev_var rfl inferInstance ((inferInstance : Mn (pTag t)).mn s4 hvt)) inferInstance (ea_cons (ev_var rfl inferInstance ((inferInstance : Mn (Nd.nd u)).mn s4 hvu)) inferInstance ea_nil))) inferInstance) inferInstance fun vv F5 H5 g5 W5 hvv => ?_
      rw [put_new vv (luk_none.mpr (by rw [hk2]; exact hnk))] at W5 ⊢
      obtain ⟨hF3, hle3⟩ := hfd2.add (w := vv) hq' hnk hi htx hadj (hc' ▸ hn) (hc' ▸ hu)
      have eL : ((Df, ndInt.dic (rows3.map frK)) :: rows3.map frL).set (q + 1) (r.a, Nd.dic (r'.l ++ [((i : Int), vv)])) = (Df, ndInt.dic ((rows3.set q (r'.add i (n, t, u) vv)).map frK)) :: (rows3.set q (r'.add i (n, t, u) vv)).map frL := by
        rw [(set_c hq').2, List.set_cons_succ, List.map_set]
        congr 2
        rw [← ha']
        rfl
      rw [eL] at W5
      have hqq : (rows3.set q (r'.add i (n, t, u) vv))[q]? = some (r'.add i (n, t, u) vv) := List.getElem?_set_self (List.getElem?_eq_some_iff.mp hq').1
      have hadk : (r'.add (i : Int) (n, t, u) vv).k = r'.k ++ [(i : Int)] := by show (r'.es ++ [((i : Int), (n, t, u))]).map (·.1) = _; rw [List.map_append]; rfl
      refine ⟨F5, ((sF.trans g2.fx).trans g4.fx).trans g5.fx, W5.sub, _, r'.add i (n, t, u) vv, _, _, rfl, hle.trans hle3, hqq, hc', ha', fun m y hm hy hty => ?_, W5, fun z hz => ?_, hF3⟩
      · rw [hadk]
        rcases Nat.lt_succ_iff_lt_or_eq.mp hm with lt | e
        · exact List.mem_append_left _ (hdone m y lt hy hty)
        · rw [e]; simp
      · rcases List.mem_or_eq_of_mem_set hz with z1 | z1
        · exact (hfo3 z z1).mn (g4.fx.trans g5.fx)
        · rw [z1]
          have ho := (hfo3 r' hr').mn (g4.fx.trans g5.fx)
          refine ⟨?_, ?_⟩
          · show (r'.l ++ [((i : Int), vv)]).map (·.1) = _
            rw [hadk, List.map_append, ho.ks]; rfl
          · show PrL F5 ((r'.es ++ [((i : Int), (n, t, u))]).map fun e => pTr e.2) ((r'.l ++ [((i : Int), vv)]).map (·.2))
            rw [List.map_append, List.map_append]
            exact ho.vs.append (.one hvv)
    · refine ⟨F4, (sF.trans g2.fx).trans g4.fx, W4.sub, rows3, r', _, _, rfl, hle, hq', hc', ha', fun m y hm hy hty => ?_, W4, fun z hz => (hfo3 z hz).mn g4.fx, hfd2⟩
      rcases Nat.lt_succ_iff_lt_or_eq.mp hm with lt | e
      · exact hdone m y lt hy hty
      · subst e
        rw [hi] at hy
        cases hy
        rw [hkk, decide_eq_true hty, Bool.and_true] at hb
        by_cases z : (m : Int) ∈ r'.k
        · exact z
        · rw [decide_eq_false z] at hb
          cases hb
  · rintro σ' F' H' sF ⟨rows3, r', x8, x9, rfl, hle, hq', hc', ha', hdone, W2, hfo2, hfd2⟩
    exact c rows3 x8 x9 F' H' hle ⟨r', List.mem_of_getElem? hq', hc', fun m x hx => hdone m x (List.getElem?_eq_some_iff.mp hx).1 hx⟩ (g1.fx.trans sF) W2 hfo2 hfd2
end
/-- what cycle_through answers: nothing, or a closed walk -/
def pCW (o : Option (Pt × List Tag)) : Pr := match o with
  | none => isV .non
  | some (u, ts) => isTup [Nd.nd u, isLst (ts.map pTag)]
def CWok (g : Gph Pt) (a b : Int) (o : Option (Pt × List Tag)) : Prop := match o with
  | none => ¬ Both g a b
  | some (u, ts) => Both g a b ∧ u ∈ keys g ∧ TsOk g 1000 ts ∧ ts ≠ []
instance {o : Option (Pt × List Tag)} : Mn (pCW o) := by
  cases o with
  | none => show Mn (isV _); infer_instance
  | some p => obtain ⟨u, t⟩ := p; show Mn (isTup _); infer_instance
def spCT : Sp := fun vs H Q _ => ∃ (F : Hp) (g : Gph Pt) (a b : Int) (v vt : V), vs = [v, vt] ∧ Same F H ∧ pG g F v ∧ Wf g ∧ cap g ≤ 10000 ∧ g.length < 60 ∧ isLst (([(1, a), (2, b)] : List Tst).map pTst) F vt ∧ Ret F H (isEx pCW (CWok g a b)) Q
theorem sc_cycle_through : FnScope ["edges", "tests", "part", "found", "node", "tag", "target", "rows", "number", "test", "place"] ["edges", "tests"] (defScope sCycleThrough) := ⟨rfl, rfl, rfl, by decide +kernel, rfl, by decide +kernel, by decide +kernel⟩
section
variable {P : Program} {w : World} {K : PySem.W.Frag} {mg : Str → Option Value} {base : Heap}
theorem ok_cycle_through (E : Tops K mg) : Cal P w K mg base 3 "cycle_through" ["edges", "tests"] spCT := by
  have c_strong_parts : Cal P w K mg base 2 "strong_parts" ["edges"] (spSP Pt) := ok_strong_parts Pt E
  have c_passes : Cal P w K mg base 2 "passes" ["tag", "test"] spPs := (ok_passes E).mono (by decide)
  have c_closed_walk : Cal P w K mg base 2 "closed_walk" ["edges", "part", "chosen"] spCW := ok_closed_walk E
  refine Cal.of E.f_CycleThrough E.g_cycle_through sc_cycle_through (fun _ _ _ _ _ _ us hl => match us, hl with | [_, _], _ => rfl) (fun vs H Q Ex h => ?_) (fun cdv A outer s H vs Q Ex hr h => ?_)
  · obtain ⟨F, g, a, b, v, vt, rfl, _⟩ := h
    rfl
  · obtain ⟨F, g, ta, tb, v, vt, rfl, s0, hg, Wg, sm, hgl, hvt, k⟩ := h
    refine ⟨_, (pss_cons (ps_asg (pe_tup (pa_cons (pe_cal c_strong_parts (hr.mono (by decide)) rfl (pa_cons (pv 0) pa_nil)) (pa_cons pe_dnewK pa_nil))) (pg_tupK (K := K) (n := 2) rfl rfl (pgs_cons (pg_name (i := 2) sc_cycle_through.nd rfl (.inl rfl)) (pgs_cons (pg_name (i := 3) sc_cycle_through.nd rfl (.inr rfl)) pgs_nil))))
      (pss_cons (ps_lock (ps_for PassesOwn.never rfl (pi_keys (pv 0)) (pg_name (i := 4) sc_cycle_through.nd rfl (.inl rfl))
        (pss_one (ps_for PassesOwn.never rfl (pi_listK (K := K) rfl (pe_dget (hu_of hr) (pv 0) (pv 4) (fun _ _ => rfl))) (pg_tupK (K := K) (n := 2) rfl rfl (pgs_cons (pg_name (i := 5) sc_cycle_through.nd rfl (.inl rfl)) (pgs_cons (pg_name (i := 6) sc_cycle_through.nd rfl (.inl rfl)) pgs_nil)))
          (pss_one (ps_if (pt_cmpR op_eq (pe_dget (hu_of hr) (pv 2) (pv 4) (fun _ _ => rfl)) (pe_dget (hu_of hr) (pv 2) (pv 6) (fun _ _ => rfl)) (nomark _))
            (pss_cons (ps_set (i := 7) sc_cycle_through.nd rfl (.inl rfl) (pe_dsetd (pv 3) (pe_dget (hu_of hr) (pv 2) (pv 4) (fun _ _ => rfl)) pe_dnewK ⟨rfl, rfl, rfl, rfl⟩))
            (pss_one (ps_for PassesOwn.never rfl (pi_enumK (K := K) rfl (by rfl) E.n_enumerate (pa_cons (pv 1) pa_nil)) (pg_tupK (K := K) (n := 2) rfl rfl (pgs_cons (pg_name (i := 8) sc_cycle_through.nd rfl (.inr rfl)) (pgs_cons (pg_name (i := 9) sc_cycle_through.nd rfl (.inl rfl)) pgs_nil)))
              (pss_one (ps_if (PW.pt (pw_and (pt_cmp (pc_dnotin (hu_of hr) (pv 8) (pv 7))) (pw_and1 (pt_val (pe_cal c_passes (hr.mono (by decide)) rfl (pa_cons (pv 5) (pa_cons (pv 9) pa_nil)))))))
                (pss_one (ps_dput (hu_of hr) (pv 7) (pv 8) (pe_tup (pa_cons (pv 4) (pa_cons (pv 5) (pa_cons (pv 6) pa_nil)))) rfl))
                pss_nil)))))
            pss_nil))))))
      (pss_cons (ps_for PassesOwn.never rfl (pi_listK (K := K) rfl (pe_callB (cr_sortedD rfl) (by rfl) E.n_sorted bt_sorted (pa_cons (pv 3) pa_nil))) (pg_name (i := 8) sc_cycle_through.nd rfl (.inr rfl))
        (pss_one (ps_if (pt_cmpR op_eq (pe_callB call_lenD (by rfl) E.n_len bt_len (pa_cons (pe_dget (hu_of hr) (pv 3) (pv 8) (fun _ _ => rfl)) pa_nil)) (pe_callB (call_len_seqK (K := K) rfl) (by rfl) E.n_len bt_len (pa_cons (pv 1) pa_nil)) (nomark _))
          (pss_one (ps_ret (pe_cal c_closed_walk (hr.mono (by decide)) rfl (pa_cons (pv 0) (pa_cons (pv 2) (pa_cons (by exact pe_lc (own := [("place", 10)]) rfl sc_cycle_through.nd (pi_range1 (by rfl) E.n_range (pa_cons (pe_callB (call_len_seqK (K := K) rfl) (by rfl) E.n_len bt_len (pa_cons (pv 1) pa_nil)) pa_nil)) (blkOk_by (N := ["edges", "tests", "part", "found", "node", "tag", "target", "rows", "number", "test", "place"]) (sc := defScope sCycleThrough) (by decide +kernel)) (fun _ _ _ _ _ => (pg_name (i := 10) sc_cycle_through.nd rfl (.inl rfl))) (fun _ _ _ _ _ => pts_nil) (fun _ _ _ _ _ => (pe_dget (hu_of hr) (pe_dget (hu_of hr) (pv 3) (pv 8) (fun _ _ => rfl)) (pv 10) (fun _ _ => rfl)))) pa_nil))))))
          pss_nil)))
      (pss_one (ps_ret pe_non))))), ?_⟩
    obtain ⟨a, l, rfl, hF, hk, hn, hp⟩ := id hg
    have W0 := Wr.start s0
    have hkeys : l.map (·.1) = keys g := by rw [hk, map_fst_pG]
    have hll : l.length = g.length := by have := congrArg List.length hkeys; simpa using this
    generalize hts : ([(1, ta), (2, tb)] : List Tst) = ts at hvt
    have htl : ts.length = 2 := by rw [← hts]; rfl
    have ht12 : ∀ (m : Nat) (x : Tst), ts[m]? = some x → x.1 = 1 ∨ x.1 = 2 := fun m x h => by
      rw [← hts] at h
      match m, h with
      | 0, h => cases h; exact .inl rfl
      | 1, h => cases h; exact .inr rfl
    -- part, found = strong_parts(edges), {}
    refine w_seq (w_tupXD (N := Int) (P := isEx (fun part : List (Pt × Int) => pPart part) (PartOk g)) W0 (ev_call s0 (ea_cons (ev_var rfl inferInstance hg) inferInstance ea_nil) fun F1 H1 vs Q1 g1 s1 hvs r1 => ?_) inferInstance fun vp Df F1 H1 s1 W1 hpx => ?_)
    · cases hvs with
      | cons h1 hvs =>
        cases hvs
        exact ⟨F1, g, _, rfl, s1, h1, Wg, sm, r1⟩
    obtain ⟨part, hP, hpa⟩ := hpx
    have hpk : part.length ≤ g.length := by
      have := nd_len hP.nd (m := keys g) fun x hx => (hP.all x).mp hx
      simpa [keys] using this
    -- the edges
    refine w_seq (w_forK (l := l) W1 rfl (s1 _ _ hF) fun od W2 => ?_)
    refine ⟨fun i σ' F' H' => ∃ (rows : List FRow) (x4 x5 x6 x7 x8 x9 : Option V), σ' = [some (.ref a), some vt, some vp, some (.ref Df), x4, x5, x6, x7, x8, x9, none] ∧ Wr F H ((Df, ndInt.dic (rows.map frK)) :: rows.map frL) F' H' (some (a, od, Nd.dic l)) ∧
      (∀ r ∈ rows, FOk F' r) ∧ Fnd g part ts rows ∧ Cmp g part ts rows i 0,
      ⟨[], none, none, none, none, none, none, rfl, W2, fun r h => (by cases h), ⟨List.nodup_nil, fun r h => (by cases h), fun r h => (by cases h), fun r h => (by cases h)⟩, fun i' j' u es t v c h => by omega⟩, ?_, ?_, ?_⟩
    · rintro i σ' F' H' ⟨rows, x4, x5, x6, x7, x8, x9, rfl, W3, _⟩
      exact (W3.lk _ _ _ rfl).1
    · rintro i n w vn σ' F' F2 H' hi sF ⟨rows, x4, x5, x6, x7, x8, x9, rfl, W3, hfo, hfd, hcm⟩ g2 hvn
      obtain ⟨es, hgi⟩ : ∃ es, g[i]? = some (n, es) := by
        have h1 : (keys g)[i]? = some n := by rw [← hkeys, List.getElem?_map, hi]; rfl
        rw [List.getElem?_map] at h1
        cases q : g[i]? with
        | none => rw [q] at h1; cases h1
        | some p =>
          rw [q] at h1
          obtain ⟨m, es⟩ := p
          have e : m = n := Option.some.inj h1
          rw [e]
          exact ⟨es, rfl⟩
      have hnk : n ∈ keys g := List.mem_map.mpr ⟨_, List.mem_of_getElem? hgi, rfl⟩
      have hae : adj g n = es := adj_at Wg hgi
      have W4 := W3.gro g2
      have s2 : Same F1 F2 := sF.trans g2.fx
      have hgF : pG g F2 (.ref a) := (inferInstance : Mn (pG g)).mn (s1.trans s2) hg
      obtain ⟨cn, hcn⟩ := hP.at hnk
      refine w_forLm (f := pE) (xs := es) W4 (by rw [← hae]; exact ev_adj (ev_var rfl inferInstance hgF) (ev_var rfl inferInstance hvn) hnk) (fun _ => inferInstance) fun F5 H5 g5 W5 => ?_
      refine ⟨fun j σ'' F'' H'' => ∃ (rows : List FRow) (x5 x6 x7 x8 x9 : Option V), σ'' = [some (.ref a), some vt, some vp, some (.ref Df), some vn, x5, x6, x7, x8, x9, none] ∧ Wr F H ((Df, ndInt.dic (rows.map frK)) :: rows.map frL) F'' H'' (some (a, od, Nd.dic l)) ∧
        (∀ r ∈ rows, FOk F'' r) ∧ Fnd g part ts rows ∧ Cmp g part ts rows i j,
        ⟨rows, x5, x6, x7, x8, x9, rfl, W5, fun r hr => (hfo r hr).mn (g2.fx.trans g5.fx), hfd, hcm⟩, ?_, ?_⟩
      · rintro j ⟨t, u⟩ ve σ'' F'' H'' hj hve sF5 ⟨rows, x5, x6, x7, x8, x9, rfl, W6, hfo, hfd, hcm⟩
        refine tg_tup2 W6.sub hve fun vtg vu hvtg hvu => ?_
        have hvu : Nd.nd u F'' vu := hvu
        have hadj : (t, u) ∈ adj g n := by rw [hae]; exact List.mem_of_getElem? hj
        obtain ⟨cu, hcu⟩ := hP.at (Wg.cl n u ⟨t, hadj⟩)
        have s6 : Same F1 F'' := s2.trans (g5.fx.trans sF5)
        have hp6 : pPart part F'' vp := (inferInstance : Mn (pPart part)).mn s6 hpa
        have hvn6 : Nd.nd n F'' vn := (inferInstance : Mn (Nd.nd n)).mn (g5.fx.trans sF5) hvn
        -- the next place, once this edge is told
        have next : ∀ {rows' : List FRow}, Lew rows rows' → (∀ c, luk part n = some c → luk part u = some c → ∃ r ∈ rows', r.c = c ∧ ∀ (m : Nat) (x : Tst), ts[m]? = some x → tgx t x.1 = x.2 → (m : Int) ∈ r.k) → Cmp g part ts rows' i (j + 1) := by
          intro rows' le h i' j' u' es' t' v' c h1 h2 h3 h4 h5
          by_cases z : i' = i ∧ j' = j
          · obtain ⟨z1, z2⟩ := z
            subst z1 z2
            rw [hgi] at h2
            cases h2
            rw [hj] at h3
            cases h3
            exact h c h4 h5
          · exact (hcm.le le) i' j' u' es' t' v' c (by omega) h2 h3 h4 h5
        refine w_if W6 (b := decide (V.int cn = V.int cu)) (et_test (ev_op (ev_part (ev_var rfl inferInstance hp6) (ev_var rfl inferInstance hvn6) hcn) (ev_part (ev_var rfl inferInstance hp6) (ev_var rfl inferInstance hvu) hcu) inferInstance (op_Eq rfl))) (fun hb F7 H7 g7 W7 => ?_) (fun hb F7 H7 g7 W7 => ?_)
        · have hcc : cn = cu := by
            have := of_decide_eq_true hb
            injection this
          subst hcc
          have hp7 : pPart part F7 vp := (inferInstance : Mn (pPart part)).mn g7.fx hp6
          have hvn7 : Nd.nd n F7 vn := (inferInstance : Mn (Nd.nd n)).mn g7.fx hvn6
          have hvu7 : Nd.nd u F7 vu := (inferInstance : Mn (Nd.nd u)).mn g7.fx hvu
          have hvt7 : pTag t F7 vtg := (inferInstance : Mn (pTag t)).mn g7.fx hvtg
          have hkl : (rows.map frK).length < 100000 := by
            have := hfd.len
            rw [List.length_map]; omega
          have hknd : ((rows.map frK).map (·.1)).Nodup := by rw [List.map_map]; exact hfd.nd
          have hts7 : isLst (ts.map pTst) F7 vt := (inferInstance : Mn (isLst (ts.map pTst))).mn ((s1.trans s6).trans g7.fx) hvt
          refine w_seq (w_setd (c := cn) (i := 7) W7 (j := 0) rfl hknd hkl (ev_varV rfl) (ev_part (ev_var rfl inferInstance hp7) (ev_var rfl inferInstance hvn7) hcn) (fun v8 F8 H8 hl s8 W8 => ?_) fun p F8 H8 hl s8 W8 => ?_)
          · -- the row stands
            have hm := luk_mem hl
            obtain ⟨r, hr, er⟩ := List.mem_map.mp hm
            obtain ⟨q, hq⟩ := List.getElem?_of_mem hr
            have er1 : r.c = cn := congrArg Prod.fst er
            have er2 : v8 = .ref r.a := (congrArg Prod.snd er).symm
            subst er2
            refine w_tests (rows := rows) (q := q) (r := r) (n := n) (u := u) (t := t) W8 (fun r hr => (hfo r hr).mn (g7.fx.trans s8)) hfd hq ((inferInstance : Mn (isLst (ts.map pTst))).mn s8 hts7) ht12 (by omega) ((inferInstance : Mn (pTag t)).mn s8 hvt7) ((inferInstance : Mn (Nd.nd n)).mn s8 hvn7) ((inferInstance : Mn (Nd.nd u)).mn s8 hvu7) hadj (er1 ▸ hcn) (er1 ▸ hcu) fun rows3 x8 x9 F9 H9 hle hex s9 W9 hfo9 hfd9 => ?_
            refine ⟨F9, ((sF5.trans g7.fx).trans s8).trans s9, W9.sub, rows3, _, _, _, _, _, rfl, W9, hfo9, hfd9, next hle fun c hc _ => ?_⟩
            rw [hcn] at hc
            cases hc
            obtain ⟨r', h1, h2, h3⟩ := hex
            exact ⟨r', h1, h2.trans er1, h3⟩
          · -- a new row
            have hnc : cn ∉ rows.map (·.c) := by
              have := luk_none.mp hl
              rw [List.map_map] at this
              exact this
            obtain ⟨hfd8, hle8⟩ := hfd.new (c := cn) (p := p) hnc (List.mem_map.mpr ⟨_, luk_mem hcn, rfl⟩)
            have W9 : Wr F H ((Df, ndInt.dic ((rows ++ [(⟨cn, p, [], []⟩ : FRow)]).map frK)) :: (rows ++ [(⟨cn, p, [], []⟩ : FRow)]).map frL) F8 H8 (some (a, od, Nd.dic l)) := by
              refine W8.perm ?_
              rw [List.map_append, List.map_append]
              refine (List.Perm.swap _ _ _).trans (List.Perm.cons _ ?_)
              exact (List.perm_append_singleton (frL ⟨cn, p, [], []⟩) (rows.map frL)).symm
            have hq : (rows ++ [(⟨cn, p, [], []⟩ : FRow)])[rows.length]? = some ⟨cn, p, [], []⟩ := by simp
            refine w_tests (rows := rows ++ [(⟨cn, p, [], []⟩ : FRow)]) (q := rows.length) (r := (⟨cn, p, [], []⟩ : FRow)) (n := n) (u := u) (t := t) W9 (fun r hr => ?_) hfd8 hq ((inferInstance : Mn (isLst (ts.map pTst))).mn s8 hts7) ht12 (by omega) ((inferInstance : Mn (pTag t)).mn s8 hvt7) ((inferInstance : Mn (Nd.nd n)).mn s8 hvn7) ((inferInstance : Mn (Nd.nd u)).mn s8 hvu7) hadj hcn hcu fun rows3 x8 x9 F9 H9 hle hex s9 W9 hfo9 hfd9 => ?_
            · rcases List.mem_append.mp hr with z | z
              · exact (hfo r z).mn (g7.fx.trans s8)
              · rw [List.mem_singleton.mp z]; exact ⟨rfl, .nil⟩
            · refine ⟨F9, ((sF5.trans g7.fx).trans s8).trans s9, W9.sub, rows3, _, _, _, _, _, rfl, W9, hfo9, hfd9, next (hle8.trans hle) fun c hc _ => ?_⟩
              rw [hcn] at hc
              cases hc
              exact hex
        · refine ⟨F7, sF5.trans g7.fx, W7.sub, rows, _, _, _, _, _, rfl, W7, fun r hr => (hfo r hr).mn g7.fx, hfd, next (Lew.refl _) fun c hc hc' => ?_⟩
          rw [hcn] at hc
          rw [hcu] at hc'
          cases hc
          cases hc'
          rw [decide_eq_true rfl] at hb
          cases hb
      · rintro σ'' F'' H'' sF5 ⟨rows, x5, x6, x7, x8, x9, rfl, W6, hfo, hfd, hcm⟩
        refine ⟨F'', (sF.trans g2.fx).trans (g5.fx.trans sF5), W6.sub, rows, _, _, _, _, _, _, rfl, W6, hfo, hfd, fun i' j' u' es' t v' c h1 h2 h3 h4 h5 => ?_⟩
        refine hcm i' j' u' es' t v' c ?_ h2 h3 h4 h5
        rcases h1 with h1 | ⟨_, h1⟩
        · rcases Nat.lt_succ_iff_lt_or_eq.mp h1 with lt | e
          · exact .inl lt
          · subst e
            rw [hgi] at h2
            cases h2
            exact .inr ⟨rfl, (List.getElem?_eq_some_iff.mp h3).1⟩
        · omega
    · rintro σ' F' H' sF ⟨rows, x4, x5, x6, x7, x8, x9, rfl, W3, hfo, hfd, hcm⟩
      have W4 : Wr F H (((Df, ndInt.dic (rows.map frK)) :: rows.map frL) ++ []) F' (upd H' a (Nd.dic l)) none := by rw [List.append_nil]; exact W3.unlockF
      obtain ⟨F5, s5, W5, hfz⟩ := W4.frzAll fun p hp od u e => by
        rcases List.mem_cons.mp hp with z | z
        · rw [z] at e; cases e
        · obtain ⟨r, _, rfl⟩ := List.mem_map.mp z
          cases e
      have s15 : Same F1 F5 := sF.trans s5
      let pF : FRow → Pr := fun r => isD (r.es.map fun e => (e.1, pTr e.2))
      have mF : ∀ r, Mn (pF r) := fun r => by
        have : MnL ((r.es.map fun e => (e.1, pTr e.2)).map (·.2)) := by
          rw [List.map_map]
          exact (mnl_map (f := fun e : Int × (Pt × Tag × Pt) => pTr e.2) (fun _ => inferInstance) r.es)
        show Mn (isD _)
        infer_instance
      have hfF : isD (rows.map fun r => (r.c, pF r)) F5 (.ref Df) := by
        refine ⟨Df, rows.map frK, rfl, hfz _ List.mem_cons_self, by rw [List.map_map, List.map_map]; rfl, by rw [List.map_map]; exact hfd.nd, ?_⟩
        have : ∀ rs : List FRow, (∀ r ∈ rs, r ∈ rows) → PrL F5 ((rs.map fun r => (r.c, pF r)).map (·.2)) ((rs.map frK).map (·.2)) := by
          intro rs
          induction rs with
          | nil => intro _; exact .nil
          | cons r rs ih =>
            intro h
            have hr := h r List.mem_cons_self
            have ho := (hfo r hr).mn s5
            refine .cons ⟨r.a, r.l, rfl, hfz _ (List.mem_cons_of_mem _ (List.mem_map.mpr ⟨r, hr, rfl⟩)), ?_, ?_, ?_⟩ (ih fun q hq => h q (List.mem_cons_of_mem _ hq))
            · rw [List.map_map]; exact ho.ks
            · rw [List.map_map]; exact hfd.kd r hr
            · rw [List.map_map]; exact ho.vs
        exact this rows fun _ h => h
      have mD : Mn (isD (rows.map fun r => (r.c, pF r))) := by
        have : MnL ((rows.map fun r => (r.c, pF r)).map (·.2)) := by
          rw [List.map_map]
          exact (mnl_map (f := pF) mF rows)
        infer_instance
      have hrl : rows.length < 64 := by have := hfd.len; omega
      have hcm2 : Cmp g part ts rows g.length 0 := by rw [← hll]; exact hcm
      -- for number in sorted(found)
      dsimp only
      refine w_seq ?_
      refine w_forEx (K := K) (Pa := fun ns : List Int => isLst (ns.map fun n => isV (.int n))) (C := fun ns => ns.Perm (rows.map (·.c))) W5 ?_ fun ns v7 F7 H7 hns g7 W7 hnl => ?_
      · exact ev_cb (ea_cons (ev_var rfl mD hfF) mD ea_nil) (by
          have := ca_sortedD (kps := rows.map fun r => (r.c, pF r)) W5.same (by rw [List.length_map]; exact hrl)
          rw [List.map_map] at this
          exact this)
      have s7 : Same F1 F7 := s15.trans g7.fx
      refine w_forLm (f := fun n : Int => isV (.int n)) (xs := ns) W7 (ev_lit inferInstance hnl) (fun _ => inferInstance) fun F8 H8 g8 W8 => ?_
      refine ⟨fun i σ' F' H' => ∃ (x8 : Option V), σ' = [some (.ref a), some vt, some vp, some (.ref Df), x4, x5, x6, x7, x8, x9, none] ∧ Wr F H [] F' H' none ∧ ∀ j c, j < i → ns[j]? = some c → ∀ r ∈ rows, r.c = c → r.es.length ≠ 2,
        ⟨_, rfl, W8, fun j c h => absurd h (Nat.not_lt_zero _)⟩, ?_, ?_⟩
      · rintro i c vc σ'' F'' H'' hi hvc sF8 ⟨x8, rfl, W9, hno⟩
        obtain rfl : vc = .int c := hvc
        have hcm : c ∈ rows.map (·.c) := hns.mem_iff.mp (List.mem_of_getElem? hi)
        obtain ⟨r, hr, hrc⟩ := List.mem_map.mp hcm
        have s9 : Same F5 F'' := (g7.fx.trans g8.fx).trans sF8
        have hf9 := mD.mn s9 hfF
        have hlk : luk (rows.map fun r => (r.c, pF r)) c = some (pF r) := by
          refine luk_of_mem (by rw [List.map_map]; exact hfd.nd) (List.mem_map.mpr ⟨r, hr, by rw [← hrc]⟩)
        have hvt9 : isLst (ts.map pTst) F'' vt := (inferInstance : Mn (isLst (ts.map pTst))).mn (((s1.trans s15).trans s9)) hvt
        have hlen2 : EvP (tCB (fun xs H Q => ∃ p ys, xs = [V.ref p] ∧ (SqL K H p ys ∨ SqT K H p ys) ∧ Q (V.int ↑ys.length) H) (tCons (tVar 1) tNil)) [some (.ref a), some vt, some vp, some (.ref Df), x4, x5, x6, x7, some (.int c), x9, none] F'' H'' (isV (.int 2)) := by
          have := ev_cb (ea_cons (ev_var (σ := [some (.ref a), some vt, some vp, some (.ref Df), x4, x5, x6, x7, some (.int c), x9, none]) (i := 1) (H := H'') rfl inferInstance hvt9) inferInstance ea_nil) (ca_lenL (K := K) (Ps := ts.map pTst))
          rw [List.length_map, htl] at this
          exact this
        have hrow : EvP (tDGet (tVar 3) (tVar 8)) [some (.ref a), some vt, some vp, some (.ref Df), x4, x5, x6, x7, some (.int c), x9, none] F'' H'' (pF r) := ev_dget (N := Int) (ev_var rfl mD hf9) mD (ev_varV rfl) hlk
        refine w_if W9 (b := decide (V.int (r.es.length : Int) = V.int 2)) (et_test (ev_op (ev_cb (ea_cons hrow (mF r) ea_nil) (by
            have := ca_lenD (kps := r.es.map fun e => (e.1, pTr e.2)) W9.same
            rw [List.length_map] at this
            exact this)) hlen2 inferInstance (op_Eq rfl))) (fun hb F10 H10 g10 W10 => ?_) (fun hb F10 H10 g10 W10 => ?_)
        · have hlen : r.es.length = 2 := by
            have := of_decide_eq_true hb
            injection this with this
            omega
          have hboth : Both g ta tb := by
            rw [← hts] at hfd
            exact hfd.both hP hr hlen
          have hx : ∀ m : Nat, m < 2 → ∃ x, luk r.es (m : Int) = some x := fun m hm => luk_some (hfd.all hr (by rw [htl]; exact hlen) (m := m) (by rw [htl]; exact hm))
          obtain ⟨x0, hx0⟩ := hx 0 (by omega)
          obtain ⟨x1, hx1⟩ := hx 1 (by omega)
          let qx : Nat → Pt × Tag × Pt := fun i => if i = 0 then x0 else x1
          have hqx : ∀ i : Nat, i < 2 → luk r.es (i : Int) = some (qx i) := fun i hi => by
            rcases (show i = 0 ∨ i = 1 by omega) with z | z
            · subst z; exact hx0
            · subst z; exact hx1
          have s10 : Same F5 F10 := s9.trans g10.fx
          have hf10 := mD.mn s10 hfF
          have hg10 : pG g F10 (.ref a) := (inferInstance : Mn (pG g)).mn ((s1.trans s15).trans s10) hg
          have hp10 : pPart part F10 vp := (inferInstance : Mn (pPart part)).mn (s15.trans s10) hpa
          have hvt10 := (inferInstance : Mn (isLst (ts.map pTst))).mn g10.fx hvt9
          have hlen10 : EvP (tCB (fun xs H Q => ∃ p ys, xs = [V.ref p] ∧ (SqL K H p ys ∨ SqT K H p ys) ∧ Q (V.int ↑ys.length) H) (tCons (tVar 1) tNil)) [some (.ref a), some vt, some vp, some (.ref Df), x4, x5, x6, x7, some (.int c), x9, none] F10 H10 (isV (.int ((2 : Nat) : Int))) := by
            have := ev_cb (ea_cons (ev_var (σ := [some (.ref a), some vt, some vp, some (.ref Df), x4, x5, x6, x7, some (.int c), x9, none]) (i := 1) (H := H10) rfl inferInstance hvt10) inferInstance ea_nil) (ca_lenL (K := K) (Ps := ts.map pTst))
            rw [List.length_map, htl] at this
            exact this
          have hch : EvP (tLc (iRng1 (tCons (tCB (fun xs H Q => ∃ p ys, xs = [V.ref p] ∧ (SqL K H p ys ∨ SqT K H p ys) ∧ Q (V.int ↑ys.length) H) (tCons (tVar 1) tNil)) tNil)) (gName 10) tYes (tDGet (tDGet (tVar 3) (tVar 8)) (tVar 10)) [10])
              [some (.ref a), some vt, some vp, some (.ref Df), x4, x5, x6, x7, some (.int c), x9, none] F10 H10 (isLst ([x0, x1].map pTr)) := by
            refine ev_lc (xs := List.range 2) (p := fun _ => true) (q := fun i => pTr (qx i)) (k := none) (ei_rng1 (ea_cons hlen10 inferInstance ea_nil) (by omega)) (fun _ _ _ z => by cases z) (by simp) (fun _ => inferInstance) fun i v F11 H11 hi g11 s11 hv Q11 hQ11 => ?_
            obtain rfl : v = .int (i : Int) := hv
            refine hQ11 _ rfl et_yes fun _ => ?_
            exact ev_dget (N := Int) (kps := r.es.map fun e => (e.1, pTr e.2)) (ev_dget (N := Int) (ev_var rfl mD (mD.mn g11.fx hf10)) mD (ev_varV rfl) hlk) (mF r) (ev_varV rfl) ((luk_map (fun x => pTr x) r.es (i : Int)).trans (by rw [hqx i (List.mem_range.mp hi)]; rfl))
          refine w_ret W10 (P := isEx pCW (CWok g ta tb)) (EvP.imp (ev_call (R := isTup [Nd.nd x0.1, pTs fun ts => TsOk g 1000 ts ∧ ts ≠ []]) W10.same (ea_cons (P := pG g) (ev_var rfl inferInstance hg10) inferInstance (ea_cons (P := pPart part) (ev_var rfl inferInstance hp10) inferInstance (ea_cons hch inferInstance ea_nil))) fun F11 H11 vs Q11 g11 s11 hvs r11 => ?_) fun F v h => ?_) fun v F11 H11 g11 W11 hv => k v F11 H11 W11.gr hv
          · cases hvs with
            | cons h1 hvs =>
              cases hvs with
              | cons h2 hvs =>
                cases hvs with
                | cons h3 hvs =>
                  cases hvs
                  refine ⟨F11, g, part, r.c, [x0, x1], _, _, _, x0.1, x0.2, rfl, s11, h1, Wg, sm, h2, hP, h3, rfl, fun p hp => ?_, by simp, by omega, r11⟩
                  have key : ∀ i : Nat, i < 2 → p = qx i → (p.2.1, p.2.2) ∈ adj g p.1 ∧ luk part p.1 = some r.c ∧ luk part p.2.2 = some r.c := fun i hi e => by
                    have := luk_mem (hqx i hi)
                    rw [← e] at this
                    obtain ⟨z1, z2, z3, _⟩ := hfd.so r hr (i : Int) p.1 p.2.1 p.2.2 this
                    exact ⟨z1, z2, z3⟩
                  rcases List.mem_cons.mp hp with z | z
                  · exact key 0 (by omega) z
                  · exact key 1 (by omega) (List.mem_singleton.mp z)
          · obtain ⟨b, vs, rfl, hb', hvs⟩ := h
            cases hvs with
            | cons h1 hvs =>
              cases hvs with
              | cons h2 hvs =>
                cases hvs
                obtain ⟨tgs, ⟨c1, c2⟩, h2⟩ := h2
                have hx0k : x0.1 ∈ keys g := by
                  obtain ⟨z1, _⟩ := hfd.so r hr ((0 : Nat) : Int) x0.1 x0.2.1 x0.2.2 (luk_mem hx0)
                  exact Ed.key ⟨_, z1⟩
                exact ⟨some (x0.1, tgs), ⟨hboth, hx0k, c1, c2⟩, b, _, rfl, hb', .cons h1 (.cons h2 .nil)⟩
        · refine ⟨F10, sF8.trans g10.fx, W10.sub, _, rfl, W10, fun j c' hj hc' r' hr' he => ?_⟩
          rcases Nat.lt_succ_iff_lt_or_eq.mp hj with lt | e
          · exact hno j c' lt hc' r' hr' he
          · subst e
            rw [hi] at hc'
            cases hc'
            have : r = r' := by
              obtain ⟨i1, hi1⟩ := List.getElem?_of_mem hr
              obtain ⟨i2, hi2⟩ := List.getElem?_of_mem hr'
              have e2 := nd_ix hfd.nd (x := c) (i := i1) (j := i2) (by rw [List.getElem?_map, hi1, ← hrc]; rfl) (by rw [List.getElem?_map, hi2, ← he]; rfl)
              subst e2
              rw [hi1] at hi2
              exact Option.some.inj hi2
            subst this
            intro z
            rw [z] at hb
            cases hb
      · rintro σ'' F'' H'' sF8 ⟨x8, rfl, W9, hno⟩
        dsimp only
        refine w_ret W9 ev_c fun v F10 H10 g10 W10 e => k v F10 H10 W10.gr ⟨none, ?_, e⟩
        show ¬ Both g ta tb
        rw [← hts] at hfd hcm2
        refine hfd.none Wg hP hcm2 fun r hr => ?_
        obtain ⟨j, hj⟩ := List.getElem?_of_mem (hns.mem_iff.mpr (List.mem_map.mpr ⟨r, hr, rfl⟩))
        exact hno j r.c (List.getElem?_eq_some_iff.mp hj).1 hj r hr rfl
end
def spCyW : Sp := fun vs H Q _ => ∃ (F : Hp) (g : Gph Pt) (a b : Int) (v : V), vs = [v, .int a, .int b] ∧ Same F H ∧ pG g F v ∧ Wf g ∧ cap g ≤ 10000 ∧ g.length < 60 ∧ Ret F H (isEx pCW (CWok (bnd g a b) a b)) Q
theorem sc_cycle_with : FnScope ["edges", "first", "second"] ["edges", "first", "second"] (defScope sCycleWith) := ⟨rfl, rfl, rfl, by decide +kernel, rfl, by decide +kernel, by decide +kernel⟩
theorem bnd_wf {g : Gph Pt} {a b : Int} (W : Wf g) : Wf (bnd g a b) := by
  have hk : keys (bnd g a b) = keys g := by unfold bnd; rw [keys_sub]; simp
  refine ⟨by rw [hk]; exact W.nd, fun u v ⟨t, h⟩ => ?_⟩
  rw [hk]
  unfold bnd at h
  rw [adj_sub (nc := fun _ => true) rfl] at h
  exact W.cl u v ⟨t, (List.mem_filter.mp h).1⟩
section
variable {P : Program} {w : World} {K : PySem.W.Frag} {mg : Str → Option Value} {base : Heap}
theorem ok_cycle_with (E : Tops K mg) : Cal P w K mg base 4 "cycle_with" ["edges", "first", "second"] spCyW := by
  have c_cycle_through : Cal P w K mg base 3 "cycle_through" ["edges", "tests"] spCT := ok_cycle_through E
  have c_bounded : Cal P w K mg base 3 "bounded" ["edges", "first", "second"] spBnd := (ok_bounded E).mono (by decide)
  refine Cal.of E.f_CycleWith E.g_cycle_with sc_cycle_with (fun _ _ _ _ _ _ us hl => match us, hl with | [_, _, _], _ => rfl) (fun vs H Q Ex h => ?_) (fun cdv A outer s H vs Q Ex hr h => ?_)
  · obtain ⟨F, g, a, b, v, rfl, _⟩ := h
    rfl
  · obtain ⟨F, g, a, b, v, rfl, s0, hg, Wg, sm, hgl, k⟩ := h
    refine ⟨_, (pss_one (ps_ret (pe_cal c_cycle_through (hr.mono (by decide)) rfl (pa_cons (pe_cal c_bounded (hr.mono (by decide)) rfl (pa_cons (pv 0) (pa_cons (pv 1) (pa_cons (pv 2) pa_nil)))) (pa_cons (pe_lst (pa_cons (pe_tup (pa_cons pe_int (pa_cons (pv 1) pa_nil))) (pa_cons (pe_tup (pa_cons pe_int (pa_cons (pv 2) pa_nil))) pa_nil))) pa_nil))))), ?_⟩
    have W0 := Wr.start s0
    refine w_ret W0 (P := isEx pCW (CWok (bnd g a b) a b)) (ev_call s0 (ea_cons (P := pG (bnd g a b)) (ev_call s0 (ea_cons (P := pG g) (ev_var rfl inferInstance hg) inferInstance (ea_cons (ev_varV rfl) inferInstance (ea_cons (ev_varV rfl) inferInstance ea_nil))) fun F1 H1 vs Q1 g1 s1 hvs r1 => ?_) inferInstance
      (ea_cons (P := isLst (([(1, a), (2, b)] : List Tst).map pTst)) (ev_lst (ea_cons (ev_tup (ea_cons ev_c inferInstance (ea_cons (ev_varV rfl) inferInstance ea_nil)) inferInstance) inferInstance (ea_cons (ev_tup (ea_cons ev_c inferInstance (ea_cons (ev_varV rfl) inferInstance ea_nil)) inferInstance) inferInstance ea_nil)) inferInstance) inferInstance ea_nil)) fun F1 H1 vs Q1 g1 s1 hvs r1 => ?_) fun v F1 H1 g1 W1 hv => k v F1 H1 W1.gr hv
    · cases hvs with
      | cons h1 hvs =>
        cases hvs with
        | cons h2 hvs =>
          cases hvs with
          | cons h3 hvs =>
            cases hvs
            obtain rfl : _ = V.int a := h2
            obtain rfl : _ = V.int b := h3
            exact ⟨F1, g, _, a, b, rfl, s1, h1, Wg, sm, r1⟩
    · cases hvs with
      | cons h1 hvs =>
        cases hvs with
        | cons h2 hvs =>
          cases hvs
          exact ⟨F1, bnd g a b, a, b, _, _, rfl, s1, h1, bnd_wf Wg, Nat.le_trans (sub_cap _ _ g) sm, Nat.lt_of_le_of_lt (sub_len _ _ g) hgl, h2, r1⟩
end
end EL

set_option Elab.async false
set_option linter.all false
set_option maxRecDepth 100000
set_option maxHeartbeats 2000000
/-! machines as values; calls of the class and its methods -/
namespace EL
open PySem PySem.Spec PyProof.Rows L2

def sg (c : Nat) : Str := ⟨#[c]⟩
structure Mach where
  al : Str
  tab : List (List Pt)
  st : Int
def Mach.ls (m : Mach) : List Nat := m.al.cps.toList
/-- a frozen tuple whose object is known to have no dict -/
def isTupD (Ps : List Pr) : Pr := fun F v => ∃ (a : Addr) (o : Obj) (vs : List V), v = .ref a ∧ F a = some (.frz o (.tup vs)) ∧ o.dict = none ∧ PrL F Ps vs
instance {Ps : List Pr} [m : MnL Ps] : Mn (isTupD Ps) := ⟨fun s ⟨a, o, vs, e, h, d, t⟩ => ⟨a, o, vs, e, s _ _ h, d, m.mn s t⟩⟩
theorem Sub.tupD {F H : Hp} {a : Addr} {o : Obj} {xs : List V} (s : Sub F H) (h : F a = some (.frz o (.tup xs))) : H a = some (.frz o (.tup xs)) := (s _ _ h).elim id fun z => by cases z.1
theorem SqT.ofD {K : PySem.W.Frag} {H : Hp} {a : Addr} {o : Obj} {xs : List V} (h : H a = some (.frz o (.tup xs))) : SqT K H a xs := .inl (.inr ⟨o, h⟩)
def pRow (r : List Pt) : Pr := isTupD (r.map fun p => Nd.nd p)
instance {r : List Pt} : Mn (pRow r) := by unfold pRow; exact (inferInstance : Mn (isTupD (r.map fun p => Nd.nd p)))
theorem exList {α : Type} {P : Nat → α → Prop} : ∀ n : Nat, (∀ j, j < n → ∃ x, P j x) → ∃ l : List α, l.length = n ∧ ∀ j x, l[j]? = some x → P j x
  | 0, _ => ⟨[], rfl, fun j x h => by simp at h⟩
  | n + 1, h => by
    obtain ⟨l, h1, h2⟩ := exList n fun j hj => h j (by omega)
    obtain ⟨x, hx⟩ := h n (by omega)
    refine ⟨l ++ [x], by simp [h1], fun j y hy => ?_⟩
    rw [List.getElem?_append] at hy
    split at hy
    · exact h2 j y hy
    · rename_i ge
      cases q : j - l.length with
      | zero =>
        rw [q] at hy
        cases hy
        have : j = n := by omega
        rw [this]; exact hx
      | succ k => rw [q] at hy; simp at hy
def rTupD (K : PySem.W.Frag) : List V → Hp → VK → Prop := fun xs H Q => ∃ p ys, xs = [.ref p] ∧ ((SqL K H p ys ∧ ∀ l o, H l = none → o.dict = none → Q (.ref l) (upd H l (.frz o (.tup ys)))) ∨ (SqT K H p ys ∧ Q (.ref p) H))
section
variable {X : Cx}
theorem call_tupD {K : PySem.W.Frag} (hK : X.K = K) : CallR X (.type "tuple") (rTupD K) := by
  subst hK
  intro pins s σ H xs us Q I r h
  obtain ⟨p, ys, rfl, h⟩ := h
  obtain ⟨u, rfl, rx⟩ := vals1 r
  cases rx
  rcases h with ⟨hq, q⟩ | ⟨hq, q⟩
  · obtain ⟨its, rv, pl, hz⟩ := I.list hq
    have hlen := rv.length
    refine call_tuple_list pl.isList (fun g kp => ?_) (by simp only [List.size_toArray] <;> omega)
    have I1 : Inv X pins σ H { s with heap := g } := I.kept (t' := s.toks) kp
    have I2 : Inv X pins σ (upd H g.objs.size (.frz { cls := .type "tuple", data := .seq its.toArray } (.tup ys))) { s with heap := g.push { cls := .type "tuple", data := .seq its.toArray } } :=
      I1.laid (t' := s.toks) (fun b o e => Heap.get?_push_of_some _ e) (Nat.le_refl _) ⟨Heap.get?_push_size _ rfl, show ObjOk X.prog X.w _ _ _ (.tup ys) from ⟨hz, its, rv, IsTup.new _ _⟩⟩
    exact ⟨.ref g.objs.size, _, I2, rfl, q _ _ (I1.hok.fresh (Nat.le_refl _)) rfl⟩
  · obtain ⟨its, rv, pl, hz⟩ := I.tuple hq
    exact call_tuple_same pl ⟨.ref p, H, I, rfl, q⟩
/-- dict(xs) of such a tuple of pairs -/
def rDictT (K : PySem.W.Frag) : List V → Hp → VK → Prop := fun xs H Q => ∃ (a : Addr) (o : Obj) (ps : List Addr) (kvs : List (Key × V)), xs = [.ref a] ∧ H a = some (.frz o (.tup (ps.map V.ref))) ∧ o.dict = none ∧ Paired (fun p kv => SqT K H p [kV kv.1, kv.2]) ps kvs ∧
  ∀ p, H p = none → Q (.ref p) (upd H p (.dK (mergeK [] kvs)))
theorem call_dictT {K : PySem.W.Frag} (hK : X.K = K) (hcalm : X.calm = true) : CallR X (.type "dict") (rDictT K) := by
  subst hK
  intro pins s σ H xs us Q I r q
  obtain ⟨a, o, ps, kvs, ex, hq, hd, hp, q⟩ := q
  subst ex
  obtain ⟨u, eu, rx⟩ := vals1 r
  subst eu
  cases rx
  obtain ⟨hget, hz, its, rv, o', ho', hc, n, hdat⟩ := (show ObjOk X.prog X.w H s.heap a (.frz o (.tup (ps.map V.ref))) from I.hok a _ hq)
  rw [hget] at ho'
  obtain rfl : o = o' := Option.some.inj ho'
  have ei := refs_at rv
  subst ei
  rw [List.length_map] at hz
  obtain ⟨prs, rel, hl, hpr⟩ := pairs_of I hp
  obtain ⟨vvs, hvl, hvv⟩ := exList (P := fun j (p : Value × Value) => ∃ q b, prs[j]? = some q ∧ p.2 = q.2 ∧ ps[j]? = some b ∧ IsTup s.heap b #[p.1, p.2] ∧ keyIs q.1 p.1 = true) prs.length fun j hj => by
    obtain ⟨b, u, h1, h2, h3⟩ := hpr j prs[j] (List.getElem?_eq_getElem hj)
    exact ⟨(u, prs[j].2), prs[j], b, List.getElem?_eq_getElem hj, rfl, h1, h2, h3⟩
  have PA' := PairArg.tuple (prog := X.prog) (w := X.w) a (ps.map Value.ref).toArray (fun j => ps.getD j 0) vvs
  have hPI : PairItems s.heap (ps.map Value.ref).toArray (fun j => ps.getD j 0) vvs := by
    refine ⟨by simp [hvl, hl], fun j k v hj => ?_⟩
    obtain ⟨q, b, h1, h2, h3, h4, h5⟩ := hvv j (k, v) hj
    have hb : ps.getD j 0 = b := by rw [List.getD_eq_getElem?_getD, h3]; rfl
    refine ⟨by simp [h3, hb], .inl ?_⟩
    show s.heap.IsTuple (ps.getD j 0) #[k, v]
    rw [hb]
    exact h4
  have hm : (s.heap.objs.size == sysModules) = false := beq_eq_false_iff_ne.mpr (Nat.ne_of_gt I.big)
  have hlen : (mergeK [] kvs).length ≤ sizeLine := by
    refine Nat.le_trans (length_mergeK kvs []) ?_
    rw [List.length_nil, Nat.zero_add, rel.length, hl]
    exact hz
  refine PySem.call_dict_pairs (knd := mixKind X.prog X.w) (kvs := prs) PA' (I.ok.hd hcalm) ⟨⟨o, n, hget, hc, hd, hdat⟩, hPI⟩ ⟨hvl.symm, fun i key v hr => ?_⟩ (by rw [hvl, hl]; exact hz) fun g tk hd' k => ?_
  · obtain ⟨q, b, h1, h2, h3, h4, h5⟩ := hvv i (key, v) hr
    exact ⟨q.1, by rw [h1]; have : v = q.2 := h2; rw [this], h5⟩
  · exact ⟨.ref s.heap.objs.size, upd H s.heap.objs.size (.dK (mergeK [] kvs)), I.laid (t' := tk) (fun b o e => k b o (by simp) e) (Nat.le_refl _) (show ObjOk X.prog X.w _ _ _ (.dK (mergeK [] kvs)) from ⟨hlen, hm, merged [] prs, KV.merge rel .nil, hd'⟩), rfl, q _ (I.hok.fresh (Nat.le_refl _))⟩
end
def pM (K : PySem.W.Frag) (m : Mach) : Pr := fun F v => ∃ (a dx : Addr) (t : V), v = .ref a ∧ F a = some (.ins (MC K) dx [("alphabet", .str m.al), ("table", t), ("first", .int m.st)]) ∧ isLst (m.tab.map pRow) F t
instance {K : PySem.W.Frag} {m : Mach} : Mn (pM K m) := ⟨fun s ⟨a, dx, t, e, h, k⟩ => ⟨a, dx, t, e, s _ _ h, (inferInstance : Mn (isLst (m.tab.map pRow))).mn s k⟩⟩
/-- the alphabets of the law -/
def Alph (x : Str) : Prop := x = "ab" ∨ x = "a" ∨ x = "abc" ∨ x = "bx" ∨ x = "mnz"
structure MOk (m : Mach) : Prop where
  al : Alph m.al
  t1 : 1 ≤ m.tab.length
  t2 : m.tab.length ≤ 3
  wd : ∀ r ∈ m.tab, r.length = m.ls.length
  rg : ∀ r ∈ m.tab, ∀ p ∈ r, 0 ≤ p.1 ∧ p.1 < m.tab.length ∧ 0 ≤ p.2 ∧ p.2 ≤ 3
  s1 : 0 ≤ m.st
  s2 : m.st < m.tab.length
/-- where a letter leads -/
def stp (m : Mach) (s : Int) (c : Nat) : Pt := (m.tab.getD s.toNat []).getD (m.ls.idxOf c) (0, 0)
theorem alph_size {x : Str} (h : Alph x) : 1 ≤ x.cps.size ∧ x.cps.size ≤ 3 := by
  rcases h with rfl | rfl | rfl | rfl | rfl <;> decide
theorem alph_nd {x : Str} (h : Alph x) : x.cps.toList.Nodup := by
  rcases h with rfl | rfl | rfl | rfl | rfl <;> decide
theorem alph_low {x : Str} (h : Alph x) : ∀ c ∈ x.cps.toList, c ∈ ("abcdefghijklmnopqrstuvwxyz" : Str).cps.toList := by
  rcases h with rfl | rfl | rfl | rfl | rfl <;> decide
theorem alph_ix0 {x : Str} (h : Alph x) : ∀ c ∈ x.cps.toList, (Builtin.Str.occurrences x (sg c) 0 x.length 1).head? = some (x.cps.toList.idxOf c) := by
  rcases h with rfl | rfl | rfl | rfl | rfl <;> decide +kernel
theorem alph_ix {x : Str} (h : Alph x) : ∀ c ∈ x.cps.toList, ∃ rest, Builtin.Str.occurrences x (sg c) 0 x.length 1 = x.cps.toList.idxOf c :: rest := fun c hc => by
  have := alph_ix0 h c hc
  cases q : Builtin.Str.occurrences x (sg c) 0 x.length 1 with
  | nil => rw [q] at this; cases this
  | cons a r => rw [q] at this; cases this; exact ⟨r, rfl⟩
theorem alph_inc {x : Str} (h : Alph x) : ∀ i : Nat, i + 1 < x.cps.size → ∃ a b, x.cps.toList[i]? = some a ∧ x.cps.toList[i + 1]? = some b ∧ decide ((sg a).cps.toList < (sg b).cps.toList) = true := by
  rcases h with rfl | rfl | rfl | rfl | rfl
  · intro i hi
    match i, hi with
    | 0, _ => exact ⟨97, 98, by decide, by decide, by decide⟩
    | i + 1, hi => exact absurd hi (by show ¬ i + 1 + 1 < 2; omega)
  · intro i hi
    exact absurd hi (by show ¬ i + 1 < 1; omega)
  · intro i hi
    match i, hi with
    | 0, _ => exact ⟨97, 98, by decide, by decide, by decide⟩
    | 1, _ => exact ⟨98, 99, by decide, by decide, by decide⟩
    | i + 2, hi => exact absurd hi (by show ¬ i + 2 + 1 < 3; omega)
  · intro i hi
    match i, hi with
    | 0, _ => exact ⟨98, 120, by decide, by decide, by decide⟩
    | i + 1, hi => exact absurd hi (by show ¬ i + 1 + 1 < 2; omega)
  · intro i hi
    match i, hi with
    | 0, _ => exact ⟨109, 110, by decide, by decide, by decide⟩
    | 1, _ => exact ⟨110, 122, by decide, by decide, by decide⟩
    | i + 2, hi => exact absurd hi (by show ¬ i + 2 + 1 < 3; omega)

/-! calls of methods -/
section
variable {X : Cx} {K : PySem.W.Frag} {k : Nat} {m : Str} {ps : List Str} {sp : Sp} {apos pos : Pos} {e o : Expr} {es : List Expr} {ta : TE} {t : TA}
theorem pe_camK {pl : Sem Bool} (h : X.K = K) (C : Cam X.prog X.w K X.mg X.base k m ps sp) (hr : Room k X.A) (ho : PE X o ta) (ha : PA X (e :: es) t)
    (hst : starEach (e :: es) X.env = (false, eval e X.env) :: starEach es X.env := by rfl) (hpl : (backTo pos (starEach es X.env)).any (·.1) = false := by rfl)
    (ht : eval (.Call (.Attribute o m apos) (e :: es) [] pos) X.env = (do
      let ov ← eval o X.env
      standAt apos.atName
      let (f, first) ← holding [ov] (getMethod ov m pl)
      callWith pos f first (backTo pos (starEach (e :: es) X.env)) (backToKw pos (keywordEach [] X.env))) := by rfl) :
    PE X (.Call (.Attribute o m apos) (e :: es) [] pos) (tMeth (MC K) m sp [] E0 ta t) := by
  subst h
  obtain ⟨⟨f, fd, F, b, mt⟩, cl⟩ := C
  exact pe_meth ho cl mt F hr b .nil pass0 ha hst hpl ht
theorem pe_cam0K {pl : Sem Bool} (h : X.K = K) (C : Cam X.prog X.w K X.mg X.base k m ps sp) (hr : Room k X.A) (ho : PE X o ta)
    (ht : eval (.Call (.Attribute o m apos) [] [] pos) X.env = (do
      let ov ← eval o X.env
      standAt apos.atName
      let (f, first) ← holding [ov] (getMethod ov m pl)
      callWith pos f first (backTo pos (starEach [] X.env)) (backToKw pos (keywordEach [] X.env))) := by rfl) :
    PE X (.Call (.Attribute o m apos) [] [] pos) (tMeth (MC K) m sp [] E0 ta tNil) := by
  subst h
  obtain ⟨⟨f, fd, F, b, mt⟩, cl⟩ := C
  exact pe_meth0 ho cl mt F hr b .nil pass0 ht
end
section
variable {K : PySem.W.Frag} {σ : L2.St} {F H : Hp} {Ps : List Pr} {R : Pr} {ta : TA} {te to : TE} {sp : Sp} {nm : Str} {m : Mach}
theorem ev_camS (ho : EvP te σ F H (pM K m)) (h : EvA ta σ F H Ps) (hs : ∀ F1 H1 x vs Q, Gr F H F1 H1 → Sub F1 H1 → pM K m F1 x → PrL F1 Ps vs → Ret F1 H1 R Q → sp (x :: vs) H1 Q E0)
    (hl : ∀ v1 v2 v3, List.lookup nm [("alphabet", v1), ("table", v2), ("first", v3)] = (none : Option V) := by intro _ _ _; rfl) : EvP (tMeth (MC K) nm sp [] E0 te ta) σ F H R := fun F1 H1 g s Q q =>
  ho F1 H1 g s _ fun x F2 H2 g2 hx => by
    obtain ⟨a, dx, t, rfl, ha, ht⟩ := id hx
    refine ⟨a, dx, _, rfl, (s.gr g2).ins ha, hl _ _ _, h F2 H2 (g.trans g2) (s.gr g2) _ fun vs F3 H3 g3 ps => ?_⟩
    rw [List.append_nil]
    exact hs F3 H3 _ vs Q ((g.trans g2).trans g3) ((s.gr g2).gr g3) ((inferInstance : Mn (pM K m)).mn g3.fx hx) ps fun v F4 H4 g4 p => q v F4 H4 ((g2.trans g3).trans g4) p
theorem ev_cam (sm : Same F H) (ho : EvP te σ F H (pM K m)) (h : EvA ta σ F H Ps) (hs : ∀ F1 H1 x vs Q, Gr F H F1 H1 → Same F1 H1 → pM K m F1 x → PrL F1 Ps vs → Ret F1 H1 R Q → sp (x :: vs) H1 Q E0)
    (hl : ∀ v1 v2 v3, List.lookup nm [("alphabet", v1), ("table", v2), ("first", v3)] = (none : Option V) := by intro _ _ _; rfl) : EvP (tMeth (MC K) nm sp [] E0 te ta) σ F H R :=
  ev_camS ho h (fun F1 H1 x vs Q g s hx ps r => hs F1 H1 x vs Q g (Gr.same sm g) hx ps r) hl
/-- a field -/
theorem ev_fld {mg : Str → Option Value} (E : Tops K mg) {f : Str} {P : Pr} (mP : Mn P) (ho : EvP te σ F H (pM K m)) (na : NoAttr K (MC K) f)
    (hf : ∀ F v1, isLst (m.tab.map pRow) F v1 → ∃ v, List.lookup f [("alphabet", V.str m.al), ("table", v1), ("first", .int m.st)] = some v ∧ P F v) : EvP (tFld K te f) σ F H P := fun F1 H1 g s Q q =>
  ho F1 H1 g s _ fun x F2 H2 g2 hx => by
    obtain ⟨a, dx, t, rfl, ha, ht⟩ := id hx
    obtain ⟨v, h1, h2⟩ := hf F2 t ht
    exact ⟨a, MC K, dx, _, v, rfl, (s.gr g2).ins ha, E.cls, na, h1, q v F2 H2 g2 h2⟩
theorem ev_alph {mg : Str → Option Value} (E : Tops K mg) (ho : EvP te σ F H (pM K m)) : EvP (tFld K te "alphabet") σ F H (isV (.str m.al)) := ev_fld E inferInstance ho E.na_alphabet fun F v h => ⟨_, rfl, rfl⟩
theorem ev_tab {mg : Str → Option Value} (E : Tops K mg) (ho : EvP te σ F H (pM K m)) : EvP (tFld K te "table") σ F H (isLst (m.tab.map pRow)) := ev_fld E inferInstance ho E.na_table fun F v h => ⟨_, rfl, h⟩
theorem ev_first {mg : Str → Option Value} (E : Tops K mg) (ho : EvP te σ F H (pM K m)) : EvP (tFld K te "first") σ F H (isV (.int m.st)) := ev_fld E inferInstance ho E.na_first fun F v h => ⟨_, rfl, rfl⟩
/-- all, any of a list of truths -/
theorem bls_of {α : Type} {f : α → Bool} {xs : List α} {F : Hp} {vs : List V} (h : PrL F (xs.map fun x => isV (.bl (f x))) vs) : vs = (xs.map f).map V.bl := by
  have : PrL F (((xs.map f).map V.bl).map isV) vs := by rw [List.map_map, List.map_map]; exact h
  exact this.isVs
theorem ca_all {α : Type} {f : α → Bool} {xs : List α} : CaP (rAll K) [isLst (xs.map fun x => isV (.bl (f x)))] (isV (.bl (xs.all f))) F H := ca_val fun F1 H1 vs g s hp Q q => by
  cases hp with
  | cons h hp =>
    cases hp
    obtain ⟨a, ws, rfl, ha, hw⟩ := h
    rw [bls_of hw] at ha
    refine ⟨a, xs.map f, rfl, SqL.of (s.lst ha), ?_⟩
    rw [List.all_map]
    exact q
theorem ca_any {α : Type} {f : α → Bool} {xs : List α} : CaP (rAny K) [isLst (xs.map fun x => isV (.bl (f x)))] (isV (.bl (xs.any f))) F H := ca_val fun F1 H1 vs g s hp Q q => by
  cases hp with
  | cons h hp =>
    cases hp
    obtain ⟨a, ws, rfl, ha, hw⟩ := h
    rw [bls_of hw] at ha
    refine ⟨a, xs.map f, rfl, SqL.of (s.lst ha), ?_⟩
    rw [List.any_map]
    exact q
theorem ca_lenS {x : Str} (hz : x.length ≤ 100000) : CaP (fun xs H Q => ∃ z, xs = [V.str z] ∧ z.length ≤ sizeLine ∧ Q (.int z.length) H) [isV (.str x)] (isV (.int (x.length : Nat))) F H := ca_val fun F1 H1 vs g s hp Q q => by
  cases hp with
  | cons h hp =>
    cases hp
    obtain rfl : _ = V.str x := h
    exact ⟨x, rfl, Nat.le_trans hz (by decide), q⟩
end

section
variable {K : PySem.W.Frag}
/-- rows -/
theorem op_ixD {i : Int} {P : Pr} {F H : Hp} {Ps : List Pr} (h : atI Ps i = some P) : OpP (rIxT K) (isTupD Ps) (isV (.int i)) P F H := fun F1 H1 x y g s ⟨a, o, vs, e, hF, hd, hp⟩ b Q q => by
  obtain rfl : y = _ := b
  unfold atI at h
  cases e2 : ixN Ps.length i with
  | none => rw [e2] at h; cases h
  | some j =>
    rw [e2] at h
    obtain ⟨v, h1, h2⟩ := hp.get (show Ps[j]? = some P from h)
    refine ⟨a, vs, i, v, e, rfl, SqT.ofD (s.tupD hF), ?_, q v F1 H1 Gr.refl h2⟩
    unfold atI
    rw [hp.length, e2]
    exact h1
theorem ca_lenD' {F H : Hp} {Ps : List Pr} : CaP (fun xs H Q => ∃ p ys, xs = [.ref p] ∧ (SqL K H p ys ∨ SqT K H p ys) ∧ Q (.int ys.length) H) [isTupD Ps] (isV (.int Ps.length)) F H := ca_val fun F1 H1 vs g s hp Q q => by
  cases hp with
  | cons h hp =>
    cases hp
    obtain ⟨a, o, ws, rfl, ha, hd, hw⟩ := h
    exact ⟨a, ws, rfl, .inr (SqT.ofD (s.tupD ha)), by rw [hw.length]; exact q⟩
theorem ei_tupD {α : Type} {xs : List α} {f : α → Pr} {k : Lk} {tl : TE} {σ : L2.St} {F H : Hp} (h : EvP tl σ F H (isTupD (xs.map f))) (m : ∀ x, Mn (f x)) : EvI (iTup K tl) σ F H k xs (fun _ => f) := fun F1 H1 g s R q =>
  h F1 H1 g s _ fun v F2 H2 g2 ⟨a, o, vs, e, hF, hd, hp⟩ => by
    have s2 := s.gr g2
    refine ⟨a, e, ⟨vs, SqT.ofD (s2.tupD hF)⟩, q _ F2 H2 g2 ⟨fun i F' H' hh hi => ?_, fun i F' H' hh hi => ?_, fun i F' H' v H'' hh hy hi => ?_⟩⟩
    · have hl : SqT K H' a vs := SqT.ofD (hh.2.1.tupD (hh.1 _ _ hF))
      have e3 := hp.length
      rw [List.length_map] at e3
      exact ⟨vs, vs[i]'(by omega), hl, by simp⟩
    · have hl : SqT K H' a vs := SqT.ofD (hh.2.1.tupD (hh.1 _ _ hF))
      exact ⟨vs, hl, by have := hp.length; rw [List.length_map] at this; omega⟩
    · have hl : SqT K H' a vs := SqT.ofD (hh.2.1.tupD (hh.1 _ _ hF))
      obtain ⟨rfl, hx⟩ := hy
      have hv : vs[i]? = some v := hx vs hl
      obtain ⟨x, h1, h2⟩ := hp.mapV hv
      exact ⟨x, F', h1, Gr.refl, (m x).mn hh.1 h2⟩
/-- tuple(list), tuple(row) -/
theorem ca_tupDL {F H : Hp} {Ps : List Pr} (m : MnL Ps) : CaP (rTupD K) [isLst Ps] (isTupD Ps) F H := fun F1 H1 vs g s hp Q q => by
  cases hp with
  | cons h hp =>
    cases hp
    obtain ⟨a, ws, rfl, ha, hw⟩ := h
    refine ⟨a, ws, rfl, .inl ⟨SqL.of (s.lst ha), fun l o hl ho => ?_⟩⟩
    have f := s.free hl
    exact q _ _ _ (Gr.newF hl f) ⟨l, o, ws, rfl, upd_same, ho, m.mn (same_new f) hw⟩
theorem ca_tupDD {F H : Hp} {Ps : List Pr} : CaP (rTupD K) [isTupD Ps] (isTupD Ps) F H := fun F1 H1 vs g s hp Q q => by
  cases hp with
  | cons h hp =>
    cases hp
    obtain ⟨a, o, ws, rfl, ha, hd, hw⟩ := h
    exact ⟨a, ws, rfl, .inr ⟨SqT.ofD (s.tupD ha), q _ _ _ Gr.refl ⟨a, o, ws, rfl, ha, hd, hw⟩⟩⟩
end
theorem ev_chainII {σ : L2.St} {F H : Hp} {ta tb tc : TE} {i j l : Int} {c c' : Int → Int → Bool} (ha : EvP ta σ F H (isV (.int i))) (hb : EvP tb σ F H (isV (.int j))) (hc : EvP tc σ F H (isV (.int l))) :
    EvP (tChain (rI0 fun i j => .bl (c i j)) (rI0 fun i j => .bl (c' i j)) ta tb tc) σ F H (isV (.bl (c i j && c' j l))) := by
  cases q : c i j with
  | true => exact ev_chain (b := true) (Pz := isV .non) ha hb inferInstance inferInstance (by rw [← q]; exact op_I0) (fun _ => hc) (fun _ => op_I0) fun z => by cases z
  | false => exact ev_chain (b := false) (Pz := isV .non) (Pc := isV .non) ha hb inferInstance inferInstance (by rw [← q]; exact op_I0) (fun z => by cases z) (fun z => by cases z) fun _ => rfl

/-! making a machine -/
structure CaI (P : Program) (w : World) (K : PySem.W.Frag) (mg : Str → Option Value) (base : Heap) (k : Nat) (sp : Sp) : Prop where
  fn : ∃ fd, FnOk P w K mg base CX0 k (He.ma K (MC K) "__init__") fd ["self", "letters", "states", "start"] sp ∧
    (∃ g, KBn K fd ["self", "letters", "states", "start"] 3 ["start"] g fun vs zs => vs ++ zs) ∧ ∃ ds, Vals [.int 0] ds ∧ Binds K fd ["self", "letters", "states", "start"] ds
  mkk : Mk K (MC K) (He.ma K (MC K) "__init__")
  mg : mg "Machine" = some (.ref (MC K))
theorem CaI.mono {P : Program} {w : World} {K : PySem.W.Frag} {mg : Str → Option Value} {base : Heap} {j k : Nat} {sp : Sp} (c : CaI P w K mg base j sp) (h : j ≤ k) : CaI P w K mg base k sp := by
  obtain ⟨fd, F, b1, b2⟩ := c.fn
  exact ⟨⟨fd, F.mono h, b1, b2⟩, c.mkk, c.mg⟩
section
variable {X : Cx} {K : PySem.W.Frag} {k : Nat} {sp : Sp} {p pos : Pos} {e : Expr} {es : List Expr} {kws : List Keyword} {t tk : TA}
theorem pe_machK (h : X.K = K) (C : CaI X.prog X.w K X.mg X.base k sp) (hr : Room (k + 1) X.A) (hg : Gl X "Machine") (ha : PA X (e :: es) t) (hkw : PK X kws tk)
    (hall : (backToKw pos (keywordEach kws X.env)).all (·.1.isSome) = true := by rfl) (hks : (backToKw pos (keywordEach kws X.env)).filterMap (·.1) = ([Str.ofString "start"] : List Str) := by rfl)
    (he : starEach (e :: es) X.env = (false, eval e X.env) :: starEach es X.env := by rfl) (hpl : ((backTo pos (starEach (e :: es) X.env)).any (·.1) || (backToKw pos (keywordEach kws X.env)).any (·.1.isNone)) = false := by rfl) :
    PE X (.Call (.Name "Machine" p) (e :: es) kws pos) (tMakeK (MC K) 2 1 sp (fun vs zs => vs ++ zs) E0 t tk) := by
  subst h
  obtain ⟨⟨fd, F, ⟨g, b⟩, _⟩, mk, gm⟩ := C
  exact pe_makeK (n := 2) mk F hr hg gm b pass0 ha hkw hall hks (by decide) he hpl
theorem pe_mach0K (h : X.K = K) (C : CaI X.prog X.w K X.mg X.base k sp) (hr : Room (k + 1) X.A) (hg : Gl X "Machine") (ha : PA X (e :: es) t)
    (he : starEach (e :: es) X.env = (false, eval e X.env) :: starEach es X.env := by rfl) (hpl : (backTo pos (starEach es X.env)).any (·.1) = false := by rfl) :
    PE X (.Call (.Name "Machine" p) (e :: es) [] pos) (tMake (MC K) sp [.int 0] E0 t) := by
  subst h
  obtain ⟨⟨fd, F, _, ds, hd, b⟩, mk, gm⟩ := C
  exact pe_make mk F hr hg gm b hd pass0 ha (by decide) he hpl
end
def spInit (K : PySem.W.Frag) : Sp := fun vs H Q _ => ∃ (F H1 : Hp) (x dx : Addr) (m : Mach) (vst : V), vs = [.ref x, .str m.al, vst, .int m.st] ∧ H = upd H1 x (.ins (MC K) dx []) ∧ H1 x = none ∧ Same F H1 ∧ isLst (m.tab.map pRow) F vst ∧ MOk m ∧
  ∀ F' H', Gr F H1 F' H' → pM K m F' (.ref x) → Q .non H'
section
variable {K : PySem.W.Frag} {σ : L2.St} {F H : Hp} {m : Mach} {ta tk : TA}
theorem ev_mach (sm : Same F H) (ha : EvA ta σ F H [isV (.str m.al), isLst (m.tab.map pRow)]) (hk : EvA tk σ F H [isV (.int m.st)]) (ok : MOk m) : EvP (tMakeK (MC K) 2 1 (spInit K) (fun vs zs => vs ++ zs) E0 ta tk) σ F H (pM K m) := fun F1 H1 g s Q q =>
  ha F1 H1 g s _ fun vs F2 H2 g2 hv => hk F2 H2 (g.trans g2) (s.gr g2) _ fun zs F3 H3 g3 hz => by
    have hv3 := (inferInstance : MnL [isV (.str m.al), isLst (m.tab.map pRow)]).mn g3.fx hv
    cases hv3 with
    | cons h1 hv3 =>
      cases hv3 with
      | cons h2 hv3 =>
        cases hv3
        cases hz with
        | cons h3 hz =>
          cases hz
          obtain rfl : _ = V.str m.al := h1
          obtain rfl : _ = V.int m.st := h3
          refine ⟨rfl, rfl, fun x dx hx hd ne => ?_⟩
          have g3' := (g.trans g2).trans g3
          have gd : Gr F3 H3 F3 (upd H3 dx (.own x)) := Gr.new hd
          exact ⟨F3, upd H3 dx (.own x), x, dx, m, _, rfl, rfl, by rw [upd_ne (Ne.symm ne)]; exact hx, Gr.same (Gr.same sm g3') gd, h2, ok, fun F' H' gg hp => ⟨rfl, q _ F' H' (((g2.trans g3).trans gd).trans gg) hp⟩⟩
theorem ev_mach0 (sm : Same F H) (ha : EvA ta σ F H [isV (.str m.al), isLst (m.tab.map pRow)]) (h0 : m.st = 0) (ok : MOk m) : EvP (tMake (MC K) (spInit K) [.int 0] E0 ta) σ F H (pM K m) := fun F1 H1 g s Q q =>
  ha F1 H1 g s _ fun vs F3 H3 g3 hv3 => by
    cases hv3 with
    | cons h1 hv3 =>
      cases hv3 with
      | cons h2 hv3 =>
        cases hv3
        obtain rfl : _ = V.str m.al := h1
        intro x dx hx hd ne
        have g3' := g.trans g3
        have gd : Gr F3 H3 F3 (upd H3 dx (.own x)) := Gr.new hd
        exact ⟨F3, upd H3 dx (.own x), x, dx, m, _, by rw [h0]; rfl, rfl, by rw [upd_ne (Ne.symm ne)]; exact hx, Gr.same (Gr.same sm g3') gd, h2, ok, fun F' H' gg hp => ⟨rfl, q _ F' H' ((g3.trans gd).trans gg) hp⟩⟩
end
end EL

set_option Elab.async false
set_option linter.all false
set_option maxRecDepth 100000
set_option maxHeartbeats 2000000
namespace EL
open PySem PySem.Spec PyProof.Rows L2
/-- a method of the class keeps its promise -/
theorem Cam.of {P : Program} {w : World} {K : PySem.W.Frag} {mg : Str → Option Value} {base : Heap} {x qual : Str} {st : Stmt} {N ps : List Str} {k : Nat} {sp : Sp} (F : ∃ fd, FunD K x qual (defArgs st) (defBody st) (defScope st) [] [] (He.ma K (MC K) x) fd) (cl : Cls K (MC K)) (mt : Meth K (MC K) x (He.ma K (MC K) x)) (S : FnScope N ps (defScope st))
    (hb : ∀ (kV doc pm : Value) (an : Option Addr) (cdv ct : Value) (us : List Value), us.length = ps.length → bindArgs (PySem.W.fnOf x qual (defArgs st) (defBody st) (defScope st) .none kV doc pm an cdv ct) ⟨us, []⟩ = pure (ps.zip us))
    (len : ∀ vs H Q E, sp vs H Q E → vs.length = ps.length)
    (hbody : ∀ (cdv : Value) (A : Around) (outer : List Env) (s : Shared) (H : Hp) (vs : List V) (Q : VK) (E : XK), Room k (A.deeper (envOfC qual (defScope st) s.heap.objs.size (He.ma K (MC K) x) cdv)) → sp vs H Q E →
      ∃ t, PSs (cxOf CX0 P w K mg base N qual (defScope st) (He.ma K (MC K) x) cdv A outer s H E).nox (defBody st) t ∧ t { nx := fun _ H' => Q .non H', rt := Q } (start N vs) H) : Cam P w K mg base (k + 1) x ps sp := by
  obtain ⟨fd, F⟩ := F
  refine ⟨⟨_, fd, F.ok S len fun cdv A outer s H vs Q E hr h => ?_, F.bindsN hb, mt⟩, cl⟩
  obtain ⟨t, h1, h2⟩ := hbody cdv A outer s H vs Q E hr h
  exact ⟨t, h1.nox, h2⟩
section
variable {P : Program} {w : World} {K : PySem.W.Frag} {mg : Str → Option Value} {base : Heap}
def spMLet (K : PySem.W.Frag) : Sp := fun vs H Q _ => ∃ (F : Hp) (m : Mach) (v : V), vs = [v] ∧ Sub F H ∧ pM K m F v ∧ Ret F H (isV (.str m.al)) Q
theorem sc_m_letters : FnScope ["self"] ["self"] (defScope sMLetters) := ⟨rfl, rfl, rfl, by decide +kernel, rfl, by decide +kernel, by decide +kernel⟩
theorem ok_mletters (E : Tops K mg) : Cam P w K mg base 1 "letters" ["self"] (spMLet K) := by
  refine Cam.of E.f_MLetters E.cls E.m_letters sc_m_letters (fun _ _ _ _ _ _ us hl => match us, hl with | [_], _ => rfl) (fun vs H Q Ex h => ?_) (fun cdv A outer s H vs Q Ex hr h => ?_)
  · obtain ⟨F, m, v, rfl, _⟩ := h
    rfl
  · obtain ⟨F, m, v, rfl, s0, hm, k⟩ := h
    refine ⟨_, (pss_one (ps_ret (pe_fldK (K := K) rfl (pv 0) rfl))), ?_⟩
    exact ev_alph E (ev_var rfl inferInstance hm) F H Gr.refl s0 _ fun v F2 H2 g2 e => k v F2 H2 g2 e
def spMSta (K : PySem.W.Frag) : Sp := fun vs H Q _ => ∃ (F : Hp) (m : Mach) (v : V), vs = [v] ∧ Sub F H ∧ pM K m F v ∧ Ret F H (isV (.int m.st)) Q
theorem sc_m_start : FnScope ["self"] ["self"] (defScope sMStart) := ⟨rfl, rfl, rfl, by decide +kernel, rfl, by decide +kernel, by decide +kernel⟩
theorem ok_mstart (E : Tops K mg) : Cam P w K mg base 1 "start" ["self"] (spMSta K) := by
  refine Cam.of E.f_MStart E.cls E.m_start sc_m_start (fun _ _ _ _ _ _ us hl => match us, hl with | [_], _ => rfl) (fun vs H Q Ex h => ?_) (fun cdv A outer s H vs Q Ex hr h => ?_)
  · obtain ⟨F, m, v, rfl, _⟩ := h
    rfl
  · obtain ⟨F, m, v, rfl, s0, hm, k⟩ := h
    refine ⟨_, (pss_one (ps_ret (pe_fldK (K := K) rfl (pv 0) rfl))), ?_⟩
    exact ev_first E (ev_var rfl inferInstance hm) F H Gr.refl s0 _ fun v F2 H2 g2 e => k v F2 H2 g2 e
def spMStates (K : PySem.W.Frag) : Sp := fun vs H Q _ => ∃ (F : Hp) (m : Mach) (v : V), vs = [v] ∧ Sub F H ∧ pM K m F v ∧ Ret F H (isLst (m.tab.map pRow)) Q
theorem sc_m_states : FnScope ["self"] ["self"] (defScope sMStates) := ⟨rfl, rfl, rfl, by decide +kernel, rfl, by decide +kernel, by decide +kernel⟩
/-- list(xs) of a frozen list or tuple -/
theorem ca_listL {F H : Hp} {Ps : List Pr} (m : MnL Ps) : CaP (fun xs H Q => ∃ p ys, xs = [.ref p] ∧ (SqL K H p ys ∨ SqT K H p ys) ∧ ∀ l, H l = none → Q (.ref l) (upd H l (.lst ys))) [isLst Ps] (isLst Ps) F H := fun F1 H1 vs g s hp Q q => by
  cases hp with
  | cons h hp =>
    cases hp
    obtain ⟨a, ws, rfl, ha, hw⟩ := h
    refine ⟨a, ws, rfl, .inl (SqL.of (s.lst ha)), fun l hl => ?_⟩
    have f := s.free hl
    exact q _ _ _ (Gr.newF hl f) ⟨l, ws, rfl, upd_same, m.mn (same_new f) hw⟩
theorem ca_tupL {F H : Hp} {Ps : List Pr} (m : MnL Ps) : CaP (fun xs H Q => ∃ p ys, xs = [.ref p] ∧ ((SqL K H p ys ∧ ∀ l, H l = none → Q (.ref l) (upd H l (.tup ys))) ∨ (SqT K H p ys ∧ Q (.ref p) H))) [isLst Ps] (isTup Ps) F H := fun F1 H1 vs g s hp Q q => by
  cases hp with
  | cons h hp =>
    cases hp
    obtain ⟨a, ws, rfl, ha, hw⟩ := h
    refine ⟨a, ws, rfl, .inl ⟨SqL.of (s.lst ha), fun l hl => ?_⟩⟩
    have f := s.free hl
    exact q _ _ _ (Gr.newF hl f) ⟨l, ws, rfl, upd_same, m.mn (same_new f) hw⟩
theorem ca_tupT {F H : Hp} {Ps : List Pr} (m : MnL Ps) : CaP (fun xs H Q => ∃ p ys, xs = [.ref p] ∧ ((SqL K H p ys ∧ ∀ l, H l = none → Q (.ref l) (upd H l (.tup ys))) ∨ (SqT K H p ys ∧ Q (.ref p) H))) [isTup Ps] (isTup Ps) F H := fun F1 H1 vs g s hp Q q => by
  cases hp with
  | cons h hp =>
    cases hp
    obtain ⟨a, ws, rfl, ha, hw⟩ := h
    exact ⟨a, ws, rfl, .inr ⟨SqT.of (s.tup ha), q _ _ _ Gr.refl ⟨a, ws, rfl, ha, hw⟩⟩⟩
theorem ok_mstates (E : Tops K mg) : Cam P w K mg base 1 "states" ["self"] (spMStates K) := by
  refine Cam.of E.f_MStates E.cls E.m_states sc_m_states (fun _ _ _ _ _ _ us hl => match us, hl with | [_], _ => rfl) (fun vs H Q Ex h => ?_) (fun cdv A outer s H vs Q Ex hr h => ?_)
  · obtain ⟨F, m, v, rfl, _⟩ := h
    rfl
  · obtain ⟨F, m, v, rfl, s0, hm, k⟩ := h
    refine ⟨_, (pss_one (ps_ret (pe_callTy (call_list_ofK (K := K) rfl) (by rfl) E.n_list bt_list (pa_cons (pe_fldK (K := K) rfl (pv 0) rfl) pa_nil)))), ?_⟩
    exact ev_cb (ea_cons (ev_tab E (ev_var rfl inferInstance hm)) inferInstance ea_nil) (ca_listL (mnl_map (fun _ => inferInstance) _)) F H Gr.refl s0 _ fun v F2 H2 g2 e => k v F2 H2 g2 e
def spMStep (K : PySem.W.Frag) : Sp := fun vs H Q _ => ∃ (F : Hp) (m : Mach) (v : V) (s : Int) (c : Nat), vs = [v, .int s, .str (sg c)] ∧ Same F H ∧ pM K m F v ∧ MOk m ∧ 0 ≤ s ∧ s < m.tab.length ∧ c ∈ m.ls ∧ Ret F H (Nd.nd (stp m s c)) Q
theorem sc_m_step : FnScope ["self", "state", "letter"] ["self", "state", "letter"] (defScope sMStep) := ⟨rfl, rfl, rfl, by decide +kernel, rfl, by decide +kernel, by decide +kernel⟩
theorem row_at {m : Mach} (ok : MOk m) {s : Int} (h0 : 0 ≤ s) (h1 : s < m.tab.length) : ∃ r, m.tab[s.toNat]? = some r ∧ r ∈ m.tab ∧ m.tab.getD s.toNat [] = r := by
  have hl : s.toNat < m.tab.length := by omega
  refine ⟨m.tab[s.toNat], List.getElem?_eq_getElem hl, List.getElem_mem hl, ?_⟩
  rw [List.getD_eq_getElem?_getD, List.getElem?_eq_getElem hl]
  rfl
theorem stp_at {m : Mach} (ok : MOk m) {s : Int} {c : Nat} (h0 : 0 ≤ s) (h1 : s < m.tab.length) (hc : c ∈ m.ls) : ∃ r, m.tab[s.toNat]? = some r ∧ r ∈ m.tab ∧ r[m.ls.idxOf c]? = some (stp m s c) := by
  obtain ⟨r, e1, e2, e3⟩ := row_at ok h0 h1
  refine ⟨r, e1, e2, ?_⟩
  have hi : m.ls.idxOf c < r.length := by rw [ok.wd r e2]; exact List.idxOf_lt_length_of_mem hc
  unfold stp
  rw [e3, List.getD_eq_getElem?_getD, List.getElem?_eq_getElem hi]
  rfl
theorem stp_rng {m : Mach} (ok : MOk m) {s : Int} {c : Nat} (h0 : 0 ≤ s) (h1 : s < m.tab.length) (hc : c ∈ m.ls) : 0 ≤ (stp m s c).1 ∧ (stp m s c).1 < m.tab.length ∧ 0 ≤ (stp m s c).2 ∧ (stp m s c).2 ≤ 3 := by
  obtain ⟨r, e1, e2, e3⟩ := stp_at ok h0 h1 hc
  exact ok.rg r e2 _ (List.mem_of_getElem? e3)
theorem sg_inj {a b : Nat} (h : sg a = sg b) : a = b := by
  have : (sg a).cps.toList = (sg b).cps.toList := by rw [h]
  simpa [sg] using this
theorem inV_sg {c : Nat} {xs : List Nat} : inV (.str (sg c)) (xs.map fun c => V.str (sg c)) = decide (c ∈ xs) := by
  unfold inV
  rw [List.any_map]
  induction xs with
  | nil => simp
  | cons y r ih =>
    rw [List.any_cons, ih]
    show (eqV (.str (sg y)) (.str (sg c)) || decide (c ∈ r)) = _
    by_cases e : y = c
    · subst e
      have : eqV (.str (sg y)) (.str (sg y)) = true := by simp [eqV]
      rw [this]; simp
    · have : eqV (.str (sg y)) (.str (sg c)) = false := by
        have : sg y ≠ sg c := fun z => e (sg_inj z)
        simp [eqV, this]
      rw [this, Bool.false_or]
      congr 1
      simp [Ne.symm e]
theorem inV_int {c : Int} {xs : List Int} : inV (.int c) (xs.map V.int) = decide (c ∈ xs) := by
  unfold inV
  rw [List.any_map]
  induction xs with
  | nil => simp
  | cons y r ih =>
    rw [List.any_cons, ih]
    show (eqV (.int y) (.int c) || decide (c ∈ r)) = _
    by_cases e : y = c
    · subst e
      have : eqV (.int y) (.int y) = true := by simp [eqV]
      rw [this]; simp
    · have : eqV (.int y) (.int c) = false := by simp [eqV, e]
      rw [this, Bool.false_or]
      congr 1
      simp [Ne.symm e]
/-- list(text) -/
theorem ca_listS {x : Str} {F H : Hp} (hz : x.length ≤ 100000) : CaP rListS [isV (.str x)] (isLst ((x.cps.toList.map fun c => V.str (sg c)).map isV)) F H := fun F1 H1 vs g s hp Q q => by
  cases hp with
  | cons h hp =>
    cases hp
    obtain rfl : _ = V.str x := h
    refine ⟨x, rfl, hz, fun l hl => ?_⟩
    have f := s.free hl
    exact q _ _ _ (Gr.newF hl f) ⟨l, _, rfl, upd_same, PrL.of_isV _⟩
/-- o.m(e) of a text -/
theorem ev_m1 {r : V → List V → Hp → VK → Prop} {σ : L2.St} {F H : Hp} {to te : TE} {x' : Str} {y w : V} (ho : EvP to σ F H (isV (.str x'))) (he : EvP te σ F H (isV y)) (h : ∀ (F1 H1 : Hp) (Q : VK), Q w H1 → r (.str x') [y] H1 Q) : EvP (tM1 r to te) σ F H (isV w) := fun F1 H1 g s Q q =>
  ho F1 H1 g s _ fun v F2 H2 g2 e => by
    obtain rfl : v = .str x' := e
    refine ⟨⟨x', rfl⟩, he F2 H2 (g.trans g2) (s.gr g2) _ fun v2 F3 H3 g3 e => ?_⟩
    obtain rfl : v2 = y := e
    exact h F3 H3 Q (q w F3 H3 (g2.trans g3) rfl)
theorem ok_mstep (E : Tops K mg) : Cam P w K mg base 1 "step" ["self", "state", "letter"] (spMStep K) := by
  refine Cam.of E.f_MStep E.cls E.m_step sc_m_step (fun _ _ _ _ _ _ us hl => match us, hl with | [_, _, _], _ => rfl) (fun vs H Q Ex h => ?_) (fun cdv A outer s H vs Q Ex hr h => ?_)
  · obtain ⟨F, m, v, s, c, rfl, _⟩ := h
    rfl
  · obtain ⟨F, m, v, st, c, rfl, s0, hm, ok, h0, h1, hc, k⟩ := h
    refine ⟨_, (pss_cons (ps_if (pt_not (pt_chain op_le op_lt pe_int (pv 1) (pe_callB (call_len_seqK (K := K) rfl) (by rfl) E.n_len bt_len (pa_cons (pe_fldK (K := K) rfl (pv 0) rfl) pa_nil))))
        (pss_one ps_never)
        pss_nil)
      (pss_cons (ps_if (pt_cmpR (op_notIn_seqK (K := K) rfl) (pv 2) (pe_callTy (call_listS rfl) (by rfl) E.n_list bt_list (pa_cons (pe_fldK (K := K) rfl (pv 0) rfl) pa_nil)) rfl)
        (pss_one ps_never)
        pss_nil)
      (pss_one (ps_ret (pe_ix (ix_tupK (K := K) rfl) (pe_ix (ix_listK (K := K) rfl) (pe_fldK (K := K) rfl (pv 0) rfl) (pv 1) (fun _ _ => rfl)) (pe_sindex (pe_fldK (K := K) rfl (pv 0) rfl) (pv 2)) (fun _ _ => rfl)))))), ?_⟩
    have W0 := Wr.start s0
    have hml : (m.tab.map pRow).length = m.tab.length := List.length_map _
    refine w_seq (w_if (b := false) W0 ?_ (fun hb => by cases hb) fun _ F1 H1 g1 W1 => ?_)
    · have hlen := ev_cb (ea_cons (ev_tab (σ := start ["self", "state", "letter"] [v, .int st, .str (sg c)]) (H := H) E (ev_var (i := 0) rfl inferInstance hm)) inferInstance ea_nil) (ca_lenL (K := K))
      rw [hml] at hlen
      refine (et_not (et_test (ev_chainII ev_c (ev_varV rfl) hlen))).is ?_
      rw [decide_eq_true h0, decide_eq_true h1]
      rfl
    · have hm1 := (inferInstance : Mn (pM K m)).mn g1.fx hm
      have hls : EvP (tCB rListS (tCons (tFld K (tVar 0) "alphabet") tNil)) (start ["self", "state", "letter"] [v, .int st, .str (sg c)]) F1 H1 (isLst ((m.ls.map fun c => V.str (sg c)).map isV)) :=
        ev_cb (ea_cons (ev_alph E (ev_var rfl inferInstance hm1)) inferInstance ea_nil) (ca_listS (by have := (alph_size ok.al).2; show m.al.cps.size ≤ _; omega))
      dsimp only [tNext]
      refine w_seq (w_if (b := false) W1 ?_ (fun hb => by cases hb) fun _ F2 H2 g2 W2 => ?_)
      · refine (et_test (ev_op (ev_varV rfl) hls inferInstance (op_inL rfl ?_))).is ?_
        · rw [List.all_map]
          exact List.all_eq_true.mpr fun _ _ => rfl
        · rw [if_pos rfl, inV_sg, decide_eq_true hc]
          rfl
      · have hm2 := (inferInstance : Mn (pM K m)).mn g2.fx hm1
        obtain ⟨r, e1, e2, e3⟩ := stp_at ok h0 h1 hc
        obtain ⟨rest, hoc⟩ := alph_ix ok.al c hc
        have hix : EvP (tM1 (fun x xs H Q => ∃ a b i rest, x = .str a ∧ xs = [.str b] ∧ Builtin.Str.occurrences a b 0 a.length 1 = i :: rest ∧ Q (.int (i : Nat)) H) (tFld K (tVar 0) "alphabet") (tVar 2)) (start ["self", "state", "letter"] [v, .int st, .str (sg c)]) F2 H2 (isV (.int ((m.ls.idxOf c : Nat) : Int))) :=
          ev_m1 (ev_alph E (ev_var rfl inferInstance hm2)) (ev_varV rfl) fun F3 H3 Q3 q3 => ⟨_, _, _, _, rfl, rfl, hoc, q3⟩
        dsimp only [tNext]
        refine w_ret W2 (P := Nd.nd (stp m st c)) (ev_op (Pa := pRow r) (ev_op (Pa := isLst (m.tab.map pRow)) (ev_tab E (ev_var rfl inferInstance hm2)) (ev_varV rfl) inferInstance (op_ixL ?_)) hix inferInstance (op_ixD ?_)) fun v F3 H3 g3 W3 hv => k v F3 H3 W3.gr hv
        · have e4 : (m.tab.map pRow)[st.toNat]? = some (pRow r) := by rw [List.getElem?_map, e1]; rfl
          have e5 := atI_nat (j := st.toNat) e4
          rw [Int.toNat_of_nonneg h0] at e5
          exact e5
        · have e4 : (r.map fun p => Nd.nd (N := Pt) p)[m.ls.idxOf c]? = some (Nd.nd (stp m st c)) := by rw [List.getElem?_map, e3]; rfl
          exact atI_nat e4
end
end EL

set_option Elab.async false
set_option linter.all false
set_option maxRecDepth 100000
set_option maxHeartbeats 2000000
namespace EL
open PySem PySem.Spec PyProof.Rows L2
section
variable {K : PySem.W.Frag} {F H : Hp} {σ : L2.St}
theorem op_inSign {c : Nat} {z : Str} : OpP (fun x y H Q => ∃ (c : Nat) (z : Str), x = .str ⟨#[c]⟩ ∧ y = .str z ∧ Q (.bl (decide (c ∈ z.cps.toList))) H) (isV (.str (sg c))) (isV (.str z)) (isV (.bl (decide (c ∈ z.cps.toList)))) F H :=
  op_val fun _ _ x y _ _ ha hb _ q => ⟨c, z, ha, hb, q⟩
theorem op_ltS {a b : Str} : OpP (fun x y H Q => ∃ i j, x = .str i ∧ y = .str j ∧ Q (.bl (decide (i.cps.toList < j.cps.toList))) H) (isV (.str a)) (isV (.str b)) (isV (.bl (decide (a.cps.toList < b.cps.toList)))) F H :=
  op_val fun _ _ x y _ _ ha hb _ q => ⟨a, b, ha, hb, q⟩
theorem w_fld {F0 H0 : Hp} {L : List (Addr × HO)} {k : Lk} {D : Ends} {mg : Str → Option Value} {tv ta : TE} {P : Pr} {f : Str} {j : Nat} {x dx : Addr} {fs : List (Str × V)} (E : Tops K mg) (W : Wr F0 H0 L F H k) (hj : L[j]? = some (x, .ins (MC K) dx fs)) (hv : EvP tv σ F H P) (mP : Mn P) (ha : EvP ta σ F H (isV (.ref x))) (na : NoAttr K (MC K) f) (hl : fs.length < 1000)
    (c : ∀ v F1 H1, Same F F1 → Wr F0 H0 (L.set j (x, .ins (MC K) dx (putF f v fs))) F1 H1 k → P F1 v → D.nx σ H1) : sFld K ta tv f D σ H :=
  hv F H Gr.refl W.sub _ fun v F1 H1 g1 pv => ha F1 H1 g1 (W.gro g1).sub _ fun y F2 H2 g2 e => by
    obtain rfl : y = .ref x := e
    have W2 := W.gro (g1.trans g2)
    exact ⟨x, MC K, dx, fs, rfl, W2.at hj, E.cls, na, hl, c v F2 _ (g1.trans g2).fx (W2.set hj rfl) (mP.mn g2.fx pv)⟩
end
def spAl : Sp := fun vs H Q _ => ∃ (F : Hp) (x : Str), vs = [.str x] ∧ Same F H ∧ Alph x ∧ Ret F H (isV (.bl true)) Q
theorem sc_is_alphabet : FnScope ["letters", "sign", "place"] ["letters"] (defScope sIsAlphabet) := ⟨rfl, rfl, rfl, by decide +kernel, rfl, by decide +kernel, by decide +kernel⟩
section
variable {P : Program} {w : World} {K : PySem.W.Frag} {mg : Str → Option Value} {base : Heap}
theorem ok_is_alphabet (E : Tops K mg) : Cal P w K mg base 1 "is_alphabet" ["letters"] spAl := by
  obtain ⟨_, m_MAX_LETTERS⟩ := E.i_MAX_LETTERS
  obtain ⟨_, m_LOWERCASE⟩ := E.s_LOWERCASE
  refine Cal.of E.f_IsAlphabet E.g_is_alphabet sc_is_alphabet (fun _ _ _ _ _ _ us hl => match us, hl with | [_], _ => rfl) (fun vs H Q Ex h => ?_) (fun cdv A outer s H vs Q Ex hr h => ?_)
  · obtain ⟨F, x, rfl, _⟩ := h
    rfl
  · obtain ⟨F, x, rfl, s0, hx, k⟩ := h
    refine ⟨_, (pss_cons (ps_if (PW.pt (pw_or (pt_not (pt_chain op_le op_le pe_int (pe_callB call_len_str (by rfl) E.n_len bt_len (pa_cons (pv 0) pa_nil)) (pe_glob (v := .int 3) rfl m_MAX_LETTERS ⟨_, rfl⟩))) (pw_or1 (pt_not (pt_val (pe_callB (cr_allK (K := K) rfl rfl) (by rfl) E.n_all bt_all (pa_cons (by exact pe_lc (own := [("sign", 1)]) rfl sc_is_alphabet.nd (pi_str (pv 0)) (blkOk_by (N := ["letters", "sign", "place"]) (sc := defScope sIsAlphabet) (by decide +kernel)) (fun _ _ _ _ _ => (pg_name (i := 1) sc_is_alphabet.nd rfl (.inl rfl))) (fun _ _ _ _ _ => pts_nil) (fun _ _ _ _ _ => (pe_cmpR op_in_sign (pv 1) (pe_glob (v := .str "abcdefghijklmnopqrstuvwxyz") rfl m_LOWERCASE ⟨_, rfl⟩) rfl))) pa_nil)))))))
        (pss_one (ps_ret pe_bl))
        pss_nil)
      (pss_one (ps_ret (pe_callB (cr_allK (K := K) rfl rfl) (by rfl) E.n_all bt_all (pa_cons (by exact pe_lc (own := [("place", 2)]) rfl sc_is_alphabet.nd (pi_range1 (by rfl) E.n_range (pa_cons (pe_op op_sub (pe_callB call_len_str (by rfl) E.n_len bt_len (pa_cons (pv 0) pa_nil)) pe_int) pa_nil)) (blkOk_by (N := ["letters", "sign", "place"]) (sc := defScope sIsAlphabet) (by decide +kernel)) (fun _ _ _ _ _ => (pg_name (i := 2) sc_is_alphabet.nd rfl (.inl rfl))) (fun _ _ _ _ _ => pts_nil) (fun _ _ _ _ _ => (pe_cmpR op_lt_str (pe_ix ix_str (pv 0) (pv 2) (fun _ _ => rfl)) (pe_ix ix_str (pv 0) (pe_op op_add (pv 2) pe_int) (fun _ _ => rfl)) (nomark _)))) pa_nil))))), ?_⟩
    have W0 := Wr.start s0
    obtain ⟨z1, z2⟩ := alph_size hx
    have hz : x.length ≤ 100000 := by show x.cps.size ≤ _; omega
    have hlen : ∀ {F1 H1 : Hp}, EvP (tCB (fun xs H Q => ∃ z, xs = [V.str z] ∧ z.length ≤ sizeLine ∧ Q (.int z.length) H) (tCons (tVar 0) tNil)) (start ["letters", "sign", "place"] [.str x]) F1 H1 (isV (.int (x.length : Nat))) := ev_cb (ea_cons (ev_varV rfl) inferInstance ea_nil) (ca_lenS hz)
    refine w_seq (w_if (b := false) W0 ?_ (fun hb => by cases hb) fun _ F1 H1 g1 W1 => ?_)
    · refine (et_or (a := false) (b := false) ((et_not (et_test (ev_chainII ev_c hlen ev_c))).is ?_) fun _ => (et_not (et_B (ev_cb (ea_cons (P := isLst (x.cps.toList.map fun c => isV (.bl (decide (c ∈ ("abcdefghijklmnopqrstuvwxyz" : Str).cps.toList))))) (EvP.imp (ev_lc (p := fun _ => true) (q := fun c => isV (.bl (decide (c ∈ ("abcdefghijklmnopqrstuvwxyz" : Str).cps.toList)))) (k := none) (ei_str (ev_varV rfl)) (fun _ _ _ z => by cases z) (by rw [Array.length_toList]; exact hz) (fun _ => inferInstance) fun c v F2 H2 _ g2 s2 hv Q2 hQ2 => ?_) fun F v h => ?_) inferInstance ea_nil) ca_all))).is ?_)
      · have h1 : (1 : Int) ≤ (x.length : Nat) := by show (1 : Int) ≤ (x.cps.size : Nat); omega
        have h2 : ((x.length : Nat) : Int) ≤ 3 := by show ((x.cps.size : Nat) : Int) ≤ 3; omega
        rw [decide_eq_true h1, decide_eq_true h2]
        rfl
      · obtain rfl : v = .str (sg c) := hv
        exact hQ2 _ rfl et_yes fun _ => ev_op (ev_varV rfl) ev_c inferInstance op_inSign
      · rw [List.filter_eq_self.mpr fun _ _ => rfl] at h
        exact h
      · rw [List.all_eq_true.mpr fun c hc => decide_eq_true (alph_low hx c hc)]
        rfl
    · dsimp only [tNext]
      have hn : EvP (tOp (rI0 fun i j => .int (i - j)) (tCB (fun xs H Q => ∃ z, xs = [V.str z] ∧ z.length ≤ sizeLine ∧ Q (.int z.length) H) (tCons (tVar 0) tNil)) (tC (.int 1))) (start ["letters", "sign", "place"] [.str x]) F1 H1 (isV (.int ((x.length - 1 : Nat) : Int))) :=
        (ev_op hlen ev_c inferInstance op_I0).is (by
          congr 1
          have : 1 ≤ x.length := z1
          omega)
      refine w_ret W1 (P := isV (.bl true)) ((ev_cb (ea_cons (P := isLst ((List.range (x.length - 1)).map fun _ => isV (.bl true))) (EvP.imp (ev_lc (p := fun _ => true) (q := fun _ => isV (.bl true)) (k := none) (ei_rng1 (ea_cons hn inferInstance ea_nil) (by omega)) (fun _ _ _ z => by cases z) (by rw [List.length_range]; omega) (fun _ => inferInstance) fun i v F2 H2 hi g2 s2 hv Q2 hQ2 => ?_) fun F v h => ?_) inferInstance ea_nil) (ca_all (f := fun _ => true))).is ?_) fun v F2 H2 g2 W2 hv => k v F2 H2 W2.gr hv
      · obtain rfl : v = .int (i : Int) := hv
        have hi := List.mem_range.mp hi
        obtain ⟨a, b, h1, h2, h3⟩ := alph_inc hx i (by show i + 1 < x.length; omega)
        refine hQ2 _ rfl et_yes fun _ => (ev_op (ev_op (ev_varV rfl) (ev_varV rfl) inferInstance (op_ixS hz (atI_nat h1))) (ev_op (ev_varV rfl) ((ev_op (ev_varV rfl) ev_c inferInstance op_I0).is (w := .int ((i + 1 : Nat) : Int)) (by congr 1)) inferInstance (op_ixS hz (atI_nat h2))) inferInstance op_ltS).is ?_
        exact congrArg V.bl h3
      · rw [List.filter_eq_self.mpr fun _ _ => rfl] at h
        exact h
      · rw [List.all_eq_true.mpr fun _ _ => rfl]
end
def spNA : Sp := fun vs H Q _ => ∃ (F : Hp) (x : Str), vs = [.str x] ∧ Same F H ∧ Alph x ∧ Ret F H (isV .non) Q
theorem sc_need_alphabet : FnScope ["letters"] ["letters"] (defScope sNeedAlphabet) := ⟨rfl, rfl, rfl, by decide +kernel, rfl, by decide +kernel, by decide +kernel⟩
section
variable {P : Program} {w : World} {K : PySem.W.Frag} {mg : Str → Option Value} {base : Heap}
theorem ok_need_alphabet (E : Tops K mg) : Cal P w K mg base 2 "need_alphabet" ["letters"] spNA := by
  have c_is_alphabet : Cal P w K mg base 1 "is_alphabet" ["letters"] spAl := ok_is_alphabet E
  refine Cal.of E.f_NeedAlphabet E.g_need_alphabet sc_need_alphabet (fun _ _ _ _ _ _ us hl => match us, hl with | [_], _ => rfl) (fun vs H Q Ex h => ?_) (fun cdv A outer s H vs Q Ex hr h => ?_)
  · obtain ⟨F, x, rfl, _⟩ := h
    rfl
  · obtain ⟨F, x, rfl, s0, hx, k⟩ := h
    refine ⟨_, (pss_one (ps_if (pt_not (pt_val (pe_cal c_is_alphabet (hr.mono (by decide)) rfl (pa_cons (pv 0) pa_nil))))
        (pss_one ps_never)
        pss_nil)), ?_⟩
    have W0 := Wr.start s0
    refine w_if (b := false) W0 (et_not (a := true) (et_B (ev_call s0 (ea_cons (ev_varV rfl) inferInstance ea_nil) fun F1 H1 vs Q1 g1 s1 hvs r1 => ?_))) (fun hb => by cases hb) fun _ F1 H1 g1 W1 => k _ F1 H1 W1.gr rfl
    cases hvs with
    | cons h1 hvs =>
      cases hvs
      obtain rfl : _ = V.str x := h1
      exact ⟨F1, x, rfl, s1, hx, r1⟩
end
def spIS : Sp := fun vs H Q _ => ∃ (F : Hp) (r : List Pt) (v : V) (wd n : Nat), vs = [v, .int wd, .int n] ∧ Same F H ∧ pRow r F v ∧ r.length = wd ∧ wd ≤ 1000 ∧ (∀ p ∈ r, 0 ≤ p.1 ∧ p.1 < n ∧ 0 ≤ p.2 ∧ p.2 ≤ 3) ∧ Ret F H (isV (.bl true)) Q
theorem sc_is_state : FnScope ["state", "width", "count", "pair", "target", "priority"] ["state", "width", "count"] (defScope sIsState) := ⟨rfl, rfl, rfl, by decide +kernel, rfl, by decide +kernel, by decide +kernel⟩
section
variable {P : Program} {w : World} {K : PySem.W.Frag} {mg : Str → Option Value} {base : Heap}
theorem ok_is_state (E : Tops K mg) : Cal P w K mg base 1 "is_state" ["state", "width", "count"] spIS := by
  obtain ⟨_, m_MAX_PRIORITY⟩ := E.i_MAX_PRIORITY
  refine Cal.of E.f_IsState E.g_is_state sc_is_state (fun _ _ _ _ _ _ us hl => match us, hl with | [_, _, _], _ => rfl) (fun vs H Q Ex h => ?_) (fun cdv A outer s H vs Q Ex hr h => ?_)
  · obtain ⟨F, r, v, wd, n, rfl, _⟩ := h
    rfl
  · obtain ⟨F, r, v, wd, n, rfl, s0, hv, hw, hz, hrg, k⟩ := h
    refine ⟨_, (pss_cons (ps_if (PW.pt (pw_or (pt_cmpR op_ne (pe_callB (call_len_seqK (K := K) rfl) (by rfl) E.n_len bt_len (pa_cons (pv 0) pa_nil)) (pv 1) (nomark _)) (pw_or1 (pt_not (pt_val (pe_callB (cr_allK (K := K) rfl rfl) (by rfl) E.n_all bt_all (pa_cons (by exact pe_lc (own := [("pair", 3)]) rfl sc_is_state.nd (pi_tupK (K := K) rfl (pv 0)) (blkOk_by (N := ["state", "width", "count", "pair", "target", "priority"]) (sc := defScope sIsState) (by decide +kernel)) (fun _ _ _ _ _ => (pg_name (i := 3) sc_is_state.nd rfl (.inl rfl))) (fun _ _ _ _ _ => pts_nil) (fun _ _ _ _ _ => (pe_cmpR op_eq (pe_callB (call_len_seqK (K := K) rfl) (by rfl) E.n_len bt_len (pa_cons (pv 3) pa_nil)) pe_int (nomark _)))) pa_nil)))))))
        (pss_one (ps_ret pe_bl))
        pss_nil)
      (pss_one (ps_ret (pe_callB (cr_allK (K := K) rfl rfl) (by rfl) E.n_all bt_all (pa_cons (by exact pe_lc (own := [("target", 4), ("priority", 5)]) rfl sc_is_state.nd (pi_tupK (K := K) rfl (pv 0)) (blkOk_by (N := ["state", "width", "count", "pair", "target", "priority"]) (sc := defScope sIsState) (by decide +kernel)) (fun _ _ _ _ _ => (pg_tupK (K := K) (n := 2) rfl rfl (pgs_cons (pg_name (i := 4) sc_is_state.nd rfl (.inl rfl)) (pgs_cons (pg_name (i := 5) sc_is_state.nd rfl (.inl rfl)) pgs_nil)))) (fun _ _ _ _ _ => pts_nil) (fun _ _ _ _ _ => (pe_and (pe_chain op_le op_lt pe_int (pv 4) (pv 2)) (pe_one (pe_chain op_le op_le pe_int (pv 5) (pe_glob (v := .int 3) rfl m_MAX_PRIORITY ⟨_, rfl⟩)))))) pa_nil))))), ?_⟩
    have W0 := Wr.start s0
    have hrl : r.length ≤ 100000 := by omega
    refine w_seq (w_if (b := false) W0 ?_ (fun hb => by cases hb) fun _ F1 H1 g1 W1 => ?_)
    · refine (et_or (a := false) (b := false) ((et_test (ev_op (ev_cb (ea_cons (ev_var (P := pRow r) rfl inferInstance hv) inferInstance ea_nil) (ca_lenD' (K := K))) (ev_varV rfl) inferInstance (op_Ne rfl))).is ?_) fun _ => (et_not (et_B (ev_cb (ea_cons (P := isLst (r.map fun _ => isV (.bl true))) (EvP.imp (ev_lc (p := fun _ => true) (q := fun _ => isV (.bl true)) (k := none) (ei_tupD (f := fun p => Nd.nd p) (ev_var (P := pRow r) rfl inferInstance hv) fun _ => inferInstance) (fun _ _ _ z => by cases z) hrl (fun _ => inferInstance) fun p vp F2 H2 _ g2 s2 hvp Q2 hQ2 => ?_) fun F v h => ?_) inferInstance ea_nil) (ca_all (f := fun _ => true))))).is ?_)
      · rw [List.length_map, hw, decide_eq_true rfl]
        rfl
      · refine hQ2 _ rfl et_yes fun _ => ?_
        exact (ev_op (ev_cb (ea_cons (ev_var (P := isTup [isV (.int p.1), isV (.int p.2)]) rfl inferInstance hvp) inferInstance ea_nil) (ca_lenT (K := K))) ev_c inferInstance (op_Eq rfl)).is rfl
      · rw [List.filter_eq_self.mpr fun _ _ => rfl] at h
        exact h
      · rw [List.all_eq_true.mpr fun _ _ => rfl]
        rfl
    · dsimp only [tNext]
      have hv1 := (inferInstance : Mn (pRow r)).mn g1.fx hv
      refine w_ret W1 (P := isV (.bl true)) ((ev_cb (ea_cons (P := isLst (r.map fun _ => isV (.bl true))) (EvP.imp (ev_lc (p := fun _ => true) (q := fun _ => isV (.bl true)) (k := none) (ei_tupD (f := fun p => Nd.nd p) (ev_var (P := pRow r) rfl inferInstance hv1) fun _ => inferInstance) (fun _ _ _ z => by cases z) hrl (fun _ => inferInstance) fun p vp F2 H2 hp g2 s2 hvp Q2 hQ2 => ?_) fun F v h => ?_) inferInstance ea_nil) (ca_all (f := fun _ => true))).is ?_) fun v F2 H2 g2 W2 hv => k v F2 H2 W2.gr hv
      · obtain ⟨h1, h2, h3, h4⟩ := hrg p hp
        refine tg_tup2 (P1 := isV (.int p.1)) (P2 := isV (.int p.2)) s2 hvp fun v1 v2 e1 e2 => hQ2 _ rfl et_yes fun _ => ?_
        obtain rfl : v1 = .int p.1 := e1
        obtain rfl : v2 = .int p.2 := e2
        refine (ev_andV (ev_chainII ev_c (ev_varV rfl) (ev_varV rfl)) fun _ => ev_chainII ev_c (ev_varV rfl) ev_c).is ?_
        rw [decide_eq_true h1, decide_eq_true h2, decide_eq_true h3, decide_eq_true h4]
        rfl
      · rw [List.filter_eq_self.mpr fun _ _ => rfl] at h
        exact h
      · rw [List.all_eq_true.mpr fun _ _ => rfl]
end
theorem sc_m_init : FnScope ["self", "letters", "states", "start", "number", "state"] ["self", "letters", "states", "start"] (defScope sMInit) := ⟨rfl, rfl, rfl, by decide +kernel, rfl, by decide +kernel, by decide +kernel⟩
section
variable {P : Program} {w : World} {K : PySem.W.Frag} {mg : Str → Option Value} {base : Heap}
theorem ok_minit (E : Tops K mg) : CaI P w K mg base 3 (spInit K) := by
  have c_need_alphabet : Cal P w K mg base 2 "need_alphabet" ["letters"] spNA := ok_need_alphabet E
  have c_is_state : Cal P w K mg base 2 "is_state" ["state", "width", "count"] spIS := (ok_is_state E).mono (by decide)
  obtain ⟨_, m_MAX_STATES⟩ := E.i_MAX_STATES
  obtain ⟨fd, Fd⟩ := E.f_MInit
  have ok : FnOk P w K mg base CX0 3 (He.ma K (MC K) "__init__") fd ["self", "letters", "states", "start"] (spInit K) := by
    refine Fd.ok sc_m_init (fun vs H Q Ex h => ?_) fun cdv A outer s H vs Q Ex hr h => ?_
    · obtain ⟨F, H1, x, dx, m, vst, rfl, _⟩ := h
      rfl
    · obtain ⟨F, H1, x, dx, m, vst, rfl, rfl, hx, s1, hst, ok, k⟩ := h
      suffices hs : ∃ t, PSs (cxOf CX0 P w K mg base ["self", "letters", "states", "start", "number", "state"] "Machine.__init__" (defScope sMInit) (He.ma K (MC K) "__init__") cdv A outer s (upd H1 x (.ins (MC K) dx [])) Ex).nox (defBody sMInit) t ∧
          t { nx := fun _ H' => Q .non H', rt := Q } (start ["self", "letters", "states", "start", "number", "state"] [.ref x, .str m.al, vst, .int m.st]) (upd H1 x (.ins (MC K) dx [])) by
        obtain ⟨t, h1, h2⟩ := hs
        exact ⟨t, h1.nox, h2⟩
      refine ⟨_, (pss_cons (ps_expr (pe_cal c_need_alphabet (hr.mono (by decide)) rfl (pa_cons (pv 1) pa_nil)))
      (pss_cons (ps_if (pt_cmpR op_gt (pe_callB (call_len_seqK (K := K) rfl) (by rfl) E.n_len bt_len (pa_cons (pv 2) pa_nil)) (pe_glob (v := .int 5) rfl m_MAX_STATES ⟨_, rfl⟩) (nomark _))
        (pss_one ps_never)
        pss_nil)
      (pss_cons (ps_if (pt_cmpR op_eq (pe_callB (call_len_seqK (K := K) rfl) (by rfl) E.n_len bt_len (pa_cons (pv 2) pa_nil)) pe_int (nomark _))
        (pss_one ps_never)
        pss_nil)
      (pss_cons (ps_for PassesOwn.never rfl (pi_enumK (K := K) rfl (by rfl) E.n_enumerate (pa_cons (pv 2) pa_nil)) (pg_tupK (K := K) (n := 2) rfl rfl (pgs_cons (pg_name (i := 4) sc_m_init.nd rfl (.inl rfl)) (pgs_cons (pg_name (i := 5) sc_m_init.nd rfl (.inl rfl)) pgs_nil)))
        (pss_one (ps_if (pt_not (pt_val (pe_cal c_is_state (hr.mono (by decide)) rfl (pa_cons (pv 5) (pa_cons (pe_callB call_len_str (by rfl) E.n_len bt_len (pa_cons (pv 1) pa_nil)) (pa_cons (pe_callB (call_len_seqK (K := K) rfl) (by rfl) E.n_len bt_len (pa_cons (pv 2) pa_nil)) pa_nil))))))
          (pss_one ps_never)
          pss_nil)))
      (pss_cons (ps_if (pt_not (pt_chain op_le op_lt pe_int (pv 3) (pe_callB (call_len_seqK (K := K) rfl) (by rfl) E.n_len bt_len (pa_cons (pv 2) pa_nil))))
        (pss_one ps_never)
        pss_nil)
      (pss_cons (ps_fld (pv 0) (pv 1) rfl)
      (pss_cons (ps_fld (pv 0) (by exact pe_lc (own := [("state", 5)]) rfl sc_m_init.nd (pi_listK (K := K) rfl (pv 2)) (blkOk_by (N := ["self", "letters", "states", "start", "number", "state"]) (sc := defScope sMInit) (by decide +kernel)) (fun _ _ _ _ _ => (pg_name (i := 5) sc_m_init.nd rfl (.inl rfl))) (fun _ _ _ _ _ => pts_nil) (fun _ _ _ _ _ => (pe_callTy (call_tupD (K := K) rfl) (by rfl) E.n_tuple bt_tuple (pa_cons (pv 5) pa_nil)))) rfl)
      (pss_one (ps_fld (pv 0) (pv 3) rfl))))))))), ?_⟩
      have fx : F x = none := by
        cases q : F x with
        | none => rfl
        | some o => have := s1 x o q; rw [hx] at this; cases this
      have W0 : Wr F H1 [(x, .ins (MC K) dx [])] F (upd H1 x (.ins (MC K) dx [])) none :=
        ⟨Gr.new hx, fun a o e => (by show upd H1 x (.ins (MC K) dx []) a = some o; rw [upd_ne (fun z => by rw [z, fx] at e; cases e)]; exact s1 a o e), fun _ _ _ e => (by cases e), by simp, fun p hp => by
          rw [List.mem_singleton.mp hp]
          exact ⟨hx, fx, upd_same, rfl⟩⟩
      obtain ⟨z1, z2⟩ := alph_size ok.al
      have hz : m.al.length ≤ 100000 := by show m.al.cps.size ≤ _; omega
      have hml : (m.tab.map pRow).length = m.tab.length := List.length_map _
      have t1 := ok.t1
      have t2 := ok.t2
      have hlen : ∀ {F1 H1 : Hp} {v4 v5 : Option V}, Same F F1 → EvP (tCB (fun xs H Q => ∃ p ys, xs = [V.ref p] ∧ (SqL K H p ys ∨ SqT K H p ys) ∧ Q (V.int ↑ys.length) H) (tCons (tVar 2) tNil)) [some (.ref x), some (.str m.al), some vst, some (.int m.st), v4, v5] F1 H1 (isV (.int (m.tab.length : Nat))) := fun {F1 H1 v4 v5} s => by
        have := ev_cb (ea_cons (ev_var (σ := [some (.ref x), some (.str m.al), some vst, some (.int m.st), v4, v5]) (i := 2) (H := H1) rfl inferInstance ((inferInstance : Mn (isLst (m.tab.map pRow))).mn s hst)) inferInstance ea_nil) (ca_lenL (K := K))
        rw [hml] at this
        exact this
      refine w_seq (w_drop W0 (P := isV .non) (ev_call W0.same (ea_cons (ev_varV rfl) inferInstance ea_nil) fun F2 H2 vs Q1 g1 s2 hvs r1 => ?_) fun F2 H2 g2 W2 => ?_)
      · cases hvs with
        | cons h1 hvs =>
          cases hvs
          obtain rfl : _ = V.str m.al := h1
          exact ⟨F2, m.al, rfl, s2, ok.al, r1⟩
      refine w_seq (w_if (b := false) W2 ((et_test (ev_op (hlen g2.fx) ev_c inferInstance op_I0)).is (decide_eq_false (by omega))) (fun hb => by cases hb) fun _ F3 H3 g3 W3 => ?_)
      dsimp only [tNext]
      have s3 : Same F F3 := g2.fx.trans g3.fx
      refine w_seq (w_if (b := false) W3 ((et_test (ev_op (hlen s3) ev_c inferInstance (op_Eq rfl))).is (decide_eq_false (fun z => by injection z with z; omega))) (fun hb => by cases hb) fun _ F4 H4 g4 W4 => ?_)
      dsimp only [tNext]
      have s4 : Same F F4 := s3.trans g4.fx
      refine w_seq (w_forI (xs := m.tab) (Y := pIx pRow) W4 (ei_enum (f := pRow) (ea_cons (ev_var rfl inferInstance ((inferInstance : Mn (isLst (m.tab.map pRow))).mn s4 hst)) inferInstance ea_nil) fun _ => inferInstance) fun F5 H5 g5 W5 => ?_)
      refine ⟨fun i σ' F' H' => ∃ v4 v5 : Option V, σ' = [some (.ref x), some (.str m.al), some vst, some (.int m.st), v4, v5] ∧ Wr F H1 [(x, .ins (MC K) dx [])] F' H' none, ⟨_, _, rfl, W5⟩, ?_, ?_⟩
      · rintro i r v σ' F' F6 H' H6 hi sF ⟨v4, v5, rfl, W6⟩ g6 hv
        have W7 := W6.gro g6
        have s6 : Same F F6 := ((s4.trans g5.fx).trans sF).trans g6.fx
        refine tg_tup2 W7.sub hv fun vi vr hvi hvr => ?_
        have hvr : pRow r F6 vr := hvr
        have hrm := List.mem_of_getElem? hi
        refine w_if (b := false) W7 (et_not (a := true) (et_B (ev_call W7.same (ea_cons (P := pRow r) (ev_var rfl inferInstance hvr) inferInstance (ea_cons (ev_cb (ea_cons (ev_varV rfl) inferInstance ea_nil) (ca_lenS hz)) inferInstance (ea_cons (hlen s6) inferInstance ea_nil))) fun F8 H8 vs Q1 g8 s8 hvs r1 => ?_))) (fun hb => by cases hb) fun _ F8 H8 g8 W8 => ⟨F8, (sF.trans g6.fx).trans g8.fx, W8.sub, _, _, rfl, W8⟩
        cases hvs with
        | cons h1 hvs =>
          cases hvs with
          | cons h2 hvs =>
            cases hvs with
            | cons h3 hvs =>
              cases hvs
              obtain rfl : _ = V.int (m.al.length : Nat) := h2
              obtain rfl : _ = V.int (m.tab.length : Nat) := h3
              refine ⟨F8, r, _, m.al.length, m.tab.length, rfl, s8, h1, ?_, ?_, ok.rg r hrm, r1⟩
              · rw [ok.wd r hrm]
                show m.al.cps.toList.length = m.al.cps.size
                rw [Array.length_toList]
              · show m.al.cps.size ≤ _; omega
      · rintro σ' F' H' sF ⟨v4, v5, rfl, W6⟩
        have s6 : Same F F' := (s4.trans g5.fx).trans sF
        dsimp only
        refine w_seq (w_if (b := false) W6 ((et_not (et_test (ev_chainII ev_c (ev_varV rfl) (hlen s6)))).is (by rw [decide_eq_true ok.s1, decide_eq_true ok.s2]; rfl)) (fun hb => by cases hb) fun _ F7 H7 g7 W7 => ?_)
        dsimp only [tNext]
        have s7 := s6.trans g7.fx
        refine w_seq (w_fld E W7 (j := 0) rfl (ev_varV rfl) inferInstance (ev_varV rfl) E.na_alphabet (by show 0 < 1000; decide) fun v8 F8 H8 s8 W8 e8 => ?_)
        obtain rfl : v8 = .str m.al := e8
        have s78 := s7.trans s8
        refine w_seq (w_fld E W8 (j := 0) (P := isLst (m.tab.map pRow)) rfl (EvP.imp (ev_lc (p := fun _ => true) (q := pRow) (k := none) (ei_list (f := pRow) (ev_var rfl inferInstance ((inferInstance : Mn (isLst (m.tab.map pRow))).mn s78 hst)) fun _ => inferInstance) (fun _ _ _ z => by cases z) (by omega) (fun _ => inferInstance) fun r v F9 H9 _ g9 s9 hv Q9 hQ9 => ?_) fun F v h => ?_) inferInstance (ev_varV rfl) E.na_table (by show 1 < 1000; decide) fun v9 F9 H9 s9 W9 h9 => ?_)
        · have hv : pRow r F9 v := hv
          exact hQ9 _ rfl et_yes fun _ => ev_cb (ea_cons (P := isTupD (r.map fun p => Nd.nd p)) (ev_var rfl inferInstance hv) inferInstance ea_nil) ca_tupDD
        · rw [List.filter_eq_self.mpr fun _ _ => rfl] at h
          exact h
        · refine w_fld E W9 (j := 0) rfl (ev_varV rfl) inferInstance (ev_varV rfl) E.na_first (by show 2 < 1000; decide) fun v10 F10 H10 s10 W10 e10 => ?_
          obtain rfl : v10 = .int m.st := e10
          obtain ⟨W11, s11⟩ := W10.frz (j := 0) rfl (fun od u z => by cases z)
          refine k _ _ W11.gr ⟨x, dx, v9, rfl, upd_same, (inferInstance : Mn (isLst (m.tab.map pRow))).mn (s10.trans s11) h9⟩
  refine ⟨⟨fd, ok, ?_, ?_⟩, E.mkr, E.g_Machine⟩
  · obtain ⟨mv, hb⟩ := Fd.kbinds0 (ps := ["self", "letters", "states", "start"]) 3 ["start"] [] (fun us _ ws => us ++ ws) (by simp) (fun q hq => by cases hq) (fun r1 _ r3 => r1.append r3) fun D doc pm an cdv ct us mv ws l1 l2 l3 => by
      match us, mv, ws, l1, l2, l3 with
      | [_, _, _], [], [_], _, _, _ => rfl
    exact ⟨_, hb⟩
  · exact Fd.binds0 (ps := ["self", "letters", "states", "start"]) 3 (by simp) (by simp) fun D doc pm an cdv ct us ks l1 l2 => by
      match us, ks, l1, l2 with
      | [_, _, _], [_], _, _ => exact ⟨_, _, _, _, _, _, rfl, rfl, rfl⟩
end
end EL

set_option Elab.async false
set_option linter.all false
set_option maxRecDepth 100000
set_option maxHeartbeats 2000000
namespace EL
open PySem PySem.Spec PyProof.Rows L2
inductive MR (m : Mach) : Int → Prop
  | st : MR m m.st
  | step {s : Int} {c : Nat} : MR m s → c ∈ m.ls → MR m (stp m s c).1
theorem MR.rng {m : Mach} (ok : MOk m) {s : Int} (h : MR m s) : 0 ≤ s ∧ s < m.tab.length := by
  induction h with
  | st => exact ⟨ok.s1, ok.s2⟩
  | step _ hc ih => have := stp_rng ok ih.1 ih.2 hc; exact ⟨this.1, this.2.1⟩
/-- a list of ints -/
abbrev isIs (ns : List Int) : Pr := isLst (ns.map fun n => isV (.int n))
def RchOk (m : Mach) (ns : List Int) : Prop := ns.Nodup ∧ ∀ s, s ∈ ns ↔ MR m s
structure RcI (m : Mach) (ns : List Int) (pl : Nat) : Prop where
  nd : ns.Nodup
  st : m.st ∈ ns
  mr : ∀ s ∈ ns, MR m s
  le : pl ≤ ns.length
  cl : ∀ i s, i < pl → ns[i]? = some s → ∀ c ∈ m.ls, (stp m s c).1 ∈ ns
theorem int_range {n : Nat} {l : List Int} (h : l.Nodup) (r : ∀ x ∈ l, 0 ≤ x ∧ x < n) : l.length ≤ n := by
  have := nd_len h (m := (List.range n).map fun i => ((i : Nat) : Int)) fun x hx => by
    obtain ⟨h1, h2⟩ := r x hx
    exact List.mem_map.mpr ⟨x.toNat, List.mem_range.mpr (by omega), by omega⟩
  simpa using this
theorem RcI.len {m : Mach} {ns : List Int} {pl : Nat} (ok : MOk m) (R : RcI m ns pl) : ns.length ≤ m.tab.length := int_range R.nd fun x hx => (R.mr x hx).rng ok
/-! what dict(row) is -/
def dtab (acc : List (Int × Int)) (r : List Pt) : List (Int × Int) := r.foldl (fun acc p => putA acc p.1 p.2) acc
theorem dtab_nd : ∀ (r : List Pt) (acc : List (Int × Int)), (acc.map (·.1)).Nodup → ((dtab acc r).map (·.1)).Nodup
  | [], _, h => h
  | p :: r, acc, h => dtab_nd r _ (put_nodup h)
theorem dtab_mem : ∀ (r : List Pt) (acc : List (Int × Int)) (t : Int), t ∈ (dtab acc r).map (·.1) ↔ t ∈ acc.map (·.1) ∨ ∃ p ∈ r, p.1 = t
  | [], acc, t => by simp [dtab]
  | p :: r, acc, t => by
    show t ∈ (dtab (putA acc p.1 p.2) r).map (·.1) ↔ _
    rw [dtab_mem r, put_ins, mem_ins]
    constructor
    · rintro ((h | h) | ⟨q, h1, h2⟩)
      · exact .inl h
      · exact .inr ⟨p, by simp, h.symm⟩
      · exact .inr ⟨q, by simp [h1], h2⟩
    · rintro (h | ⟨q, h1, h2⟩)
      · exact .inl (.inl h)
      · rcases List.mem_cons.mp h1 with e | h1
        · exact .inl (.inr (by rw [← h2, e]))
        · exact .inr ⟨q, h1, h2⟩
abbrev encI (l : List (Int × Int)) : List (Key × V) := l.map fun p => (Sum.inl p.1, V.int p.2)
theorem dtab_merge : ∀ (r : List Pt) (acc : List (Int × Int)), (acc.map (·.1)).Nodup → mergeK (encI acc) (encI r) = encI (dtab acc r)
  | [], _, _ => rfl
  | p :: r, acc, h => by
    show mergeK (putK (encI acc) (Sum.inl p.1) (V.int p.2)) (encI r) = encI (dtab (putA acc p.1 p.2) r)
    have e : putK (encI acc) (Sum.inl p.1) (V.int p.2) = encI (putA acc p.1 p.2) := by
      have hn : ((encI acc).map (·.1)).Nodup := by
        have := nodup_enc (α := Int) (fun x : Int => (Sum.inl x : Key)) (fun _ _ h => Sum.inl.inj h) h
        rw [List.map_map] at this ⊢
        exact this
      rw [putK_putA hn]
      have e1 : encI acc = (acc.map fun p => (p.1, V.int p.2)).map fun p => ((Sum.inl p.1 : Key), p.2) := by rw [List.map_map]; rfl
      have e2 : encI (putA acc p.1 p.2) = ((putA acc p.1 p.2).map fun p => (p.1, V.int p.2)).map fun p => ((Sum.inl p.1 : Key), p.2) := by rw [List.map_map]; rfl
      rw [e1, e2, putA_enc (fun x : Int => (Sum.inl x : Key)) (fun _ _ h => Sum.inl.inj h), put_map V.int]
    rw [e]
    exact dtab_merge r _ (put_nodup h)
def pDt (l : List (Int × Int)) : Pr := isD (l.map fun p => (p.1, isV (.int p.2)))
instance {l : List (Int × Int)} : Mn (pDt l) := by
  unfold pDt
  have : MnL ((l.map fun p => (p.1, isV (.int p.2))).map (·.2)) := by
    rw [List.map_map]
    exact (mnl_map (f := fun p : Int × Int => isV (.int p.2)) (fun _ => inferInstance) l)
  infer_instance
theorem row_refs {K : PySem.W.Frag} {F H : Hp} (s : Sub F H) : ∀ {r : List Pt} {vs : List V}, PrL F (r.map fun p => Nd.nd p) vs → ∃ ps : List Addr, vs = ps.map V.ref ∧ Paired (fun p kv => SqT K H p [kV kv.1, kv.2]) ps (encI r)
  | [], _, h => by cases h; exact ⟨[], rfl, .nil⟩
  | p :: r, _, h => by
    cases h with
    | cons h t =>
      obtain ⟨ps, h1, h2⟩ := row_refs s t
      obtain ⟨b, ws, e, hb, hw⟩ := (show isTup [isV (.int p.1), isV (.int p.2)] F _ from h)
      have ew : ws = [.int p.1, .int p.2] := PrL.isVs (ws := [.int p.1, .int p.2]) hw
      rw [ew] at hb
      refine ⟨b :: ps, by rw [e, h1]; rfl, .cons (SqT.of (s.tup hb)) h2⟩
theorem ca_dictT {K : PySem.W.Frag} {F H : Hp} {r : List Pt} : CaP (rDictT K) [pRow r] (pDt (dtab [] r)) F H := fun F1 H1 vs g s hp Q q => by
  cases hp with
  | cons h hp =>
    cases hp
    obtain ⟨a, o, ws, rfl, ha, hd, hw⟩ := h
    obtain ⟨ps, rfl, hps⟩ := row_refs (K := K) s hw
    refine ⟨a, o, ps, encI r, rfl, s.tupD ha, hd, hps, fun l hl => ?_⟩
    have f := s.free hl
    have e := dtab_merge r [] (by simp)
    rw [show encI [] = [] from rfl] at e
    rw [e]
    have hnd : ((dtab [] r).map (·.1)).Nodup := dtab_nd r [] (by simp)
    have e2 : HO.dK (encI (dtab [] r)) = ndInt.dic ((dtab [] r).map fun p => (p.1, V.int p.2)) := by
      show HO.dK _ = HO.dK _
      rw [List.map_map]; rfl
    rw [e2]
    refine q _ _ _ (Gr.newF hl f) ⟨l, _, rfl, upd_same, by rw [List.map_map, List.map_map]; rfl, by rw [List.map_map]; exact hnd, ?_⟩
    have := PrL.of_isV (F := upd F1 l (ndInt.dic ((dtab [] r).map fun p => (p.1, V.int p.2)))) ((dtab [] r).map fun p => V.int p.2)
    rw [List.map_map] at this ⊢
    rw [List.map_map]
    exact this
theorem ca_sorted {K : PySem.W.Frag} {F H : Hp} {ns : List Int} (hz : ns.length < 64) : CaP (rSorted K) [isIs ns] (isEx isIs fun l => l.Perm ns) F H := fun F1 H1 vs g s hp Q q => by
  cases hp with
  | cons h hp =>
    cases hp
    obtain ⟨a, ws, rfl, ha, hw⟩ := h
    have e : ws = ns.map V.int := by
      have : PrL F1 ((ns.map V.int).map isV) ws := by rw [List.map_map]; exact hw
      exact this.isVs
    rw [e] at ha
    refine ⟨a, ns, rfl, SqL.of (s.lst ha), hz, fun l p pm _ hp => ?_⟩
    have f := s.free hp
    refine q _ _ _ (Gr.newF hp f) ⟨l, pm, p, _, rfl, upd_same, ?_⟩
    have := PrL.of_isV (F := upd F1 p (.lst (l.map V.int))) (l.map V.int)
    rw [List.map_map] at this
    exact this
/-- x (not) in a frozen list of ints -/
theorem op_inIs {K : PySem.W.Frag} {F H : Hp} {neg : Bool} {c : Int} {ns : List Int} : OpP (rIn K neg) (isV (.int c)) (isIs ns) (isV (.bl (if neg then !decide (c ∈ ns) else decide (c ∈ ns)))) F H := by
  have := op_inL (K := K) (F := F) (H := H) (neg := neg) (w := .int c) (ws := ns.map V.int) rfl (by rw [List.all_map]; exact List.all_eq_true.mpr fun _ _ => rfl)
  rw [inV_int, List.map_map] at this
  exact this
theorem RcI.step {m : Mach} (ok : MOk m) {ns : List Int} {pl : Nat} {s : Int} {r : List Pt} (R : RcI m ns pl) (hs : ns[pl]? = some s) (hr : m.tab[s.toNat]? = some r) : RcI m (ns ++ ((dtab [] r).map (·.1)).filter fun t => !decide (t ∈ ns)) (pl + 1) := by
  have hsm := List.mem_of_getElem? hs
  have hmr := R.mr s hsm
  obtain ⟨h0, h1⟩ := hmr.rng ok
  have lt := (List.getElem?_eq_some_iff.mp hs).1
  have tg : ∀ t, t ∈ (dtab [] r).map (·.1) ↔ ∃ c ∈ m.ls, (stp m s c).1 = t := fun t => by
    rw [dtab_mem]
    constructor
    · rintro (h | ⟨p, hp, e⟩)
      · cases h
      · obtain ⟨i, hi⟩ := List.getElem?_of_mem hp
        have hil := (List.getElem?_eq_some_iff.mp hi).1
        have hw := ok.wd r (List.mem_of_getElem? hr)
        have hil2 : i < m.ls.length := by omega
        refine ⟨m.ls[i], List.getElem_mem hil2, ?_⟩
        obtain ⟨r', e1, _, e3⟩ := stp_at ok h0 h1 (List.getElem_mem hil2)
        rw [hr] at e1
        cases e1
        have e4 : m.ls.idxOf m.ls[i] = i := by
          have hn : m.ls.Nodup := alph_nd ok.al
          have hlt : m.ls.idxOf m.ls[i] < m.ls.length := List.idxOf_lt_length_of_mem (List.getElem_mem hil2)
          exact nd_ix hn (x := m.ls[i]) (by rw [List.getElem?_eq_getElem hlt, List.getElem_idxOf hlt]) (List.getElem?_eq_getElem hil2)
        rw [e4, hi] at e3
        rw [← Option.some.inj e3, e]
    · rintro ⟨c, hc, e⟩
      obtain ⟨r', e1, _, e3⟩ := stp_at ok h0 h1 hc
      rw [hr] at e1
      cases e1
      exact .inr ⟨_, List.mem_of_getElem? e3, e⟩
  refine ⟨?_, List.mem_append_left _ R.st, fun x hx => ?_, by rw [List.length_append]; omega, fun i x hi hx c hc => ?_⟩
  · refine List.nodup_append.mpr ⟨R.nd, (dtab_nd r [] (by simp)).filter _, fun a ha b hb e => ?_⟩
    have := (List.mem_filter.mp hb).2
    rw [← e, decide_eq_true ha] at this
    cases this
  · rcases List.mem_append.mp hx with z | z
    · exact R.mr x z
    · obtain ⟨c, hc, e⟩ := (tg x).mp (List.mem_filter.mp z).1
      rw [← e]
      exact hmr.step hc
  · have hil : i < ns.length := by omega
    rw [List.getElem?_append_left hil] at hx
    rcases Nat.lt_succ_iff_lt_or_eq.mp hi with z | z
    · exact List.mem_append_left _ (R.cl i x z hx c hc)
    · subst z
      rw [hs] at hx
      cases hx
      by_cases q : (stp m s c).1 ∈ ns
      · exact List.mem_append_left _ q
      · refine List.mem_append_right _ (List.mem_filter.mpr ⟨(tg _).mpr ⟨c, hc, rfl⟩, ?_⟩)
        rw [decide_eq_false q]; rfl
theorem RcI.done {m : Mach} {ns : List Int} {pl : Nat} (R : RcI m ns pl) (h : ¬ pl < ns.length) : ∀ s, s ∈ ns ↔ MR m s := fun s => by
  refine ⟨R.mr s, fun hs => ?_⟩
  induction hs with
  | st => exact R.st
  | step _ hc ih =>
    obtain ⟨i, hi⟩ := List.getElem?_of_mem ih
    have := (List.getElem?_eq_some_iff.mp hi).1
    exact R.cl i _ (by omega) hi _ hc
def spMRe (K : PySem.W.Frag) : Sp := fun vs H Q _ => ∃ (F : Hp) (m : Mach) (v : V), vs = [v] ∧ Same F H ∧ pM K m F v ∧ MOk m ∧ Ret F H (isEx isIs (RchOk m)) Q
theorem sc_m_reachable : FnScope ["self", "found", "place", "targets", "target"] ["self"] (defScope sMReachable) := ⟨rfl, rfl, rfl, by decide +kernel, rfl, by decide +kernel, by decide +kernel⟩
section
variable {P : Program} {w : World} {K : PySem.W.Frag} {mg : Str → Option Value} {base : Heap}
theorem ok_mreachable (E : Tops K mg) : Cam P w K mg base 1 "reachable" ["self"] (spMRe K) := by
  refine Cam.of E.f_MReachable E.cls E.m_reachable sc_m_reachable (fun _ _ _ _ _ _ us hl => match us, hl with | [_], _ => rfl) (fun vs H Q Ex h => ?_) (fun cdv A outer s H vs Q Ex hr h => ?_)
  · obtain ⟨F, m, v, rfl, _⟩ := h
    rfl
  · obtain ⟨F, m, v, rfl, s0, hm, ok, k⟩ := h
    refine ⟨_, (pss_cons (ps_asg (pe_tup (pa_cons (pe_lst (pa_cons (pe_fldK (K := K) rfl (pv 0) rfl) pa_nil)) (pa_cons pe_int pa_nil))) (pg_tupK (K := K) (n := 2) rfl rfl (pgs_cons (pg_name (i := 1) sc_m_reachable.nd rfl (.inr rfl)) (pgs_cons (pg_name (i := 2) sc_m_reachable.nd rfl (.inl rfl)) pgs_nil))))
      (pss_cons (ps_while PassesOwn.never (pt_cmpR op_lt (pv 2) (pe_callB (call_len_seqK (K := K) rfl) (by rfl) E.n_len bt_len (pa_cons (pv 1) pa_nil)) (nomark _))
        (pss_cons (ps_set (i := 3) sc_m_reachable.nd rfl (.inl rfl) (pe_callTy (call_dictT (K := K) rfl rfl) (by rfl) E.n_dict bt_dict (pa_cons (pe_ix (ix_listK (K := K) rfl) (pe_fldK (K := K) rfl (pv 0) rfl) (pe_ix (ix_listK (K := K) rfl) (pv 1) (pv 2) (fun _ _ => rfl)) (fun _ _ => rfl)) pa_nil)))
        (pss_cons (ps_set (i := 1) sc_m_reachable.nd rfl (.inr rfl) (pe_op L2.op_cat (pv 1) (pe_lock (by exact pe_lc (own := [("target", 4)]) rfl sc_m_reachable.nd (pi_keys (pv 3)) (blkOk_by (N := ["self", "found", "place", "targets", "target"]) (sc := defScope sMReachable) (by decide +kernel)) (fun _ _ _ _ _ => (pg_name (i := 4) sc_m_reachable.nd rfl (.inl rfl))) (fun _ _ _ _ _ => pts_one (pt_cmpR (op_notIn_seqK (K := K) rfl) (pv 4) (pv 1) rfl)) (fun _ _ _ _ _ => (pv 4))))))
        (pss_one (ps_aug (i := 2) sc_m_reachable.nd rfl (.inl rfl) pe_int ip_add)))))
      (pss_one (ps_ret (pe_callB (cr_sortedK (K := K) rfl) (by rfl) E.n_sorted bt_sorted (pa_cons (pv 1) pa_nil)))))), ?_⟩
    have W0 := Wr.start s0
    have t2 := ok.t2
    refine w_seq (w_asg W0 (ev_tup (Ps := [isIs [m.st], isV (.int 0)]) (ea_cons (ev_lst (Ps := [isV (.int m.st)]) (ea_cons (ev_first E (ev_var rfl inferInstance hm)) inferInstance ea_nil) inferInstance) inferInstance (ea_cons ev_c inferInstance ea_nil)) inferInstance) fun vt F1 H1 g1 W1 hvt => ?_)
    refine tg_tup2 W1.sub hvt fun vf vp hvf hvp => ?_
    obtain rfl : vp = .int 0 := hvp
    refine w_seq (w_while (fun mu σ' F' H' => ∃ (ns : List Int) (pl : Nat) (vf : V) (v3 v4 : Option V), σ' = [some v, some vf, some (.int (pl : Int)), v3, v4] ∧ mu = m.tab.length - pl ∧ Same F F' ∧ Wr F H [] F' H' none ∧ isIs ns F' vf ∧ RcI m ns pl)
      W1.sub _ ⟨[m.st], 0, vf, none, none, rfl, rfl, g1.fx, W1, hvf, ⟨by simp, by simp, fun s h => by rw [List.mem_singleton.mp h]; exact .st, by simp, fun i s h => absurd h (Nat.not_lt_zero _)⟩⟩ ?_)
    rintro mu σ' F' H' sb ⟨ns, pl, vf, v3, v4, rfl, rfl, sF, W2, hns, R⟩
    have hlen := R.len ok
    have hnl : (ns.map fun n => isV (.int n)).length = ns.length := List.length_map _
    refine ⟨decide ((pl : Int) < (ns.length : Nat)), et_test (ev_op (ev_varV rfl) (hnl ▸ ev_cb (ea_cons (ev_var (P := isIs ns) rfl inferInstance hns) inferInstance ea_nil) (ca_lenL (K := K))) inferInstance op_I0), fun hb F3 H3 g3 => ?_, fun hb F3 H3 g3 => ?_⟩
    · have hlt : pl < ns.length := by have := of_decide_eq_true hb; omega
      have W3 := W2.gro g3
      have hs : ns[pl]? = some ns[pl] := List.getElem?_eq_getElem hlt
      obtain ⟨h0, h1⟩ := (R.mr _ (List.mem_of_getElem? hs)).rng ok
      obtain ⟨r, e1, e2, _⟩ := row_at ok h0 h1
      have hm3 := (inferInstance : Mn (pM K m)).mn (sF.trans g3.fx) hm
      have hns3 := (inferInstance : Mn (isIs ns)).mn g3.fx hns
      have hat : atI (m.tab.map pRow) ns[pl] = some (pRow r) := by
        have e4 : (m.tab.map pRow)[ns[pl].toNat]? = some (pRow r) := by rw [List.getElem?_map, e1]; rfl
        have e5 := atI_nat (j := ns[pl].toNat) e4
        rw [Int.toNat_of_nonneg h0] at e5
        exact e5
      have hat2 : atI (ns.map fun n => isV (.int n)) (pl : Int) = some (isV (.int ns[pl])) := atI_nat (by rw [List.getElem?_map, hs]; rfl)
      refine w_seq (w_set W3 (ev_cb (ea_cons (P := pRow r) (ev_op (ev_tab E (ev_var rfl inferInstance hm3)) (ev_op (ev_var (P := isIs ns) rfl inferInstance hns3) (ev_varV rfl) inferInstance (op_ixL hat2)) inferInstance (op_ixL hat)) inferInstance ea_nil) (ca_dictT (K := K))) fun vd F4 H4 g4 W4 hvd => ?_)
      obtain ⟨d, l, rfl, hdF, hdk, hdn, hdv⟩ := id hvd
      have hkeys : l.map (·.1) = (dtab [] r).map (·.1) := by rw [hdk, List.map_map]; rfl
      have hns4 := (inferInstance : Mn (isIs ns)).mn g4.fx hns3
      have hdl : l.length ≤ 100000 := by
        have h1 := congrArg List.length hkeys
        have h2 : ((dtab [] r).map (·.1)).length ≤ m.tab.length := int_range (dtab_nd r [] (by simp)) fun x hx => by
          rcases (dtab_mem r [] x).mp hx with z | ⟨p, hp, e⟩
          · cases z
          · have := ok.rg r e2 p hp
            rw [← e]; exact ⟨this.1, this.2.1⟩
        rw [List.length_map] at h1
        omega
      have hlc : EvP (tLockE (tLc (iKeys (tVar 3)) (gName 4) (tTest (tOp (rIn K true) (tVar 4) (tVar 1))) (tVar 4) [4])) [some v, some vf, some (.int (pl : Int)), some (.ref d), v4] F4 H4 (isIs (((dtab [] r).map (·.1)).filter fun t => !decide (t ∈ ns))) := by
        refine ev_lock hdF (W4.same _ _ hdF) (ndInt.dct l) (ndInt.mt l) fun F5 H5 od g5 => ?_
        have := ev_lc (te := tVar 4) (tt := tTest (tOp (rIn K true) (tVar 4) (tVar 1))) (g := gName 4) (vs := [4]) (σ := [some v, some vf, some (.int (pl : Int)), some (.ref d), v4]) (p := fun t : Int => !decide (t ∈ ns)) (q := fun n => isV (.int n)) (ei_keys (F := F5) (j := 3) (l := l) rfl (upd_same (H := H5) (o := .frz od (ndInt.dic l)))) (fun d' od' u e => by cases e; exact upd_same) (by rw [List.length_map]; exact hdl) (fun _ => inferInstance) fun t vt F6 H6 _ g6 s6 hvt Q6 hQ6 => ?_
        · rw [hkeys] at this
          exact this
        · obtain rfl : vt = .int t := hvt
          exact hQ6 _ rfl (et_test (ev_op (ev_varV rfl) (ev_var (P := isIs ns) rfl inferInstance ((inferInstance : Mn (isIs ns)).mn (g5.fx.trans g6.fx) hns4)) inferInstance op_inIs)) fun _ => ev_varV rfl
      have R2 := R.step ok hs e1
      have hl2 := R2.len ok
      refine w_seq (w_set (P := isIs (ns ++ ((dtab [] r).map (·.1)).filter fun t => !decide (t ∈ ns))) W4 (EvP.imp (ev_op (ev_var (P := isIs ns) rfl inferInstance hns4) hlc inferInstance (op_cat (by rw [List.length_append] at hl2; rw [List.length_map, List.length_map]; omega) (mnl_map (fun _ => inferInstance) _) (mnl_map (fun _ => inferInstance) _))) fun F v h => by rw [← List.map_append] at h; exact h) fun vf2 F5 H5 g5 W5 hvf2 => ?_)
      refine w_aug W5 (a := (pl : Int)) (b := 1) rfl ev_c fun F6 H6 g6 W6 => ?_
      refine ⟨m.tab.length - (pl + 1), F6, by omega, W6.sub, _, pl + 1, vf2, _, _, rfl, rfl, (((sF.trans g3.fx).trans g4.fx).trans g5.fx).trans g6.fx, W6, (inferInstance : Mn (isIs _)).mn g6.fx hvf2, R2⟩
    · have W3 := W2.gro g3
      have hnl2 : ¬ pl < ns.length := by have := of_decide_eq_false hb; omega
      have hns3 := (inferInstance : Mn (isIs ns)).mn g3.fx hns
      refine w_ret W3 (ev_cb (ea_cons (ev_var (P := isIs ns) rfl inferInstance hns3) inferInstance ea_nil) (ca_sorted (K := K) (by omega))) fun v5 F5 H5 g5 W5 ⟨l, hl, h5⟩ => ?_
      exact k v5 F5 H5 W5.gr ⟨l, ⟨hl.nodup_iff.mpr R.nd, fun s => by rw [hl.mem_iff]; exact R.done hnl2 s⟩, h5⟩
end
end EL

set_option Elab.async false
set_option linter.all false
set_option maxRecDepth 100000
set_option maxHeartbeats 2000000
namespace EL
open PySem PySem.Spec PyProof.Rows L2
/-! runs -/
def run (m : Mach) (s : Int) : List Nat → Int
  | [] => s
  | c :: r => run m (stp m s c).1 r
def rmx (m : Mach) (s g : Int) : List Nat → Int
  | [] => g
  | c :: r => rmx m (stp m s c).1 (max g (stp m s c).2) r
theorem run_snoc {m : Mach} : ∀ {s : Int} {l : List Nat} {c : Nat}, run m s (l ++ [c]) = (stp m (run m s l) c).1
  | _, [], _ => rfl
  | s, d :: l, c => run_snoc (s := (stp m s d).1) (l := l)
theorem rmx_snoc {m : Mach} : ∀ {s g : Int} {l : List Nat} {c : Nat}, rmx m s g (l ++ [c]) = max (rmx m s g l) (stp m (run m s l) c).2
  | _, _, [], _ => rfl
  | s, g, d :: l, c => rmx_snoc (s := (stp m s d).1) (l := l)
theorem run_rng {m : Mach} (ok : MOk m) : ∀ {l : List Nat} {s : Int}, 0 ≤ s → s < m.tab.length → (∀ c ∈ l, c ∈ m.ls) → 0 ≤ run m s l ∧ run m s l < m.tab.length
  | [], s, h0, h1, _ => ⟨h0, h1⟩
  | c :: l, s, h0, h1, h => by
    have := stp_rng ok h0 h1 (h c List.mem_cons_self)
    exact run_rng (l := l) (s := (stp m s c).1) ok this.1 this.2.1 fun d hd => h d (List.mem_cons_of_mem _ hd)
def itr (m : Mach) (s : Int) (w : List Nat) : Nat → Int
  | 0 => s
  | k + 1 => run m (itr m s w k) w
def gk (m : Mach) (s : Int) (w : List Nat) (k : Nat) : Int := rmx m (itr m s w k) 0 w
def AccP (m : Mach) (u w : List Nat) (b : Bool) : Prop := ∃ (j n : Nat) (M : Int), j < n ∧ itr m (run m m.st u) w j = itr m (run m m.st u) w n ∧ (∃ k, j ≤ k ∧ k < n ∧ gk m (run m m.st u) w k = M) ∧ (∀ k, j ≤ k → k < n → gk m (run m m.st u) w k ≤ M) ∧ b = decide (M % 2 = 0)
section
variable {K : PySem.W.Frag} {F H : Hp} {σ : L2.St}
theorem itr_rng {m : Mach} (ok : MOk m) {s : Int} {w : List Nat} (h0 : 0 ≤ s) (h1 : s < m.tab.length) (h : ∀ c ∈ w, c ∈ m.ls) : ∀ k, 0 ≤ itr m s w k ∧ itr m s w k < m.tab.length
  | 0 => ⟨h0, h1⟩
  | k + 1 => run_rng ok (itr_rng ok h0 h1 h k).1 (itr_rng ok h0 h1 h k).2 h
theorem ev_bmL {t : TA} {to : TE} {r : V → List V → Hp → VK → Prop} {Ps Qs : List Pr} {P : Pr} (ho : EvP to σ F H (isLst Ps)) (mo : MnL Ps) (ht : EvA t σ F H Qs)
    (hr : ∀ F1 H1 x vs (Q : VK), Gr F H F1 H1 → Sub F1 H1 → isLst Ps F1 x → PrL F1 Qs vs → (∀ v F2 H2, Gr F1 H1 F2 H2 → P F2 v → Q v H2) → r x vs H1 Q) : EvP (tBM K "list" r to t) σ F H P := fun F1 H1 g s Q q =>
  ho F1 H1 g s _ fun x F2 H2 g2 hx => by
    obtain ⟨a, vs, rfl, ha, hv⟩ := id hx
    refine ⟨Or.inl ⟨rfl, _, SqL.of ((s.gr g2).lst ha)⟩, ht F2 H2 (g.trans g2) (s.gr g2) _ fun ws F3 H3 g3 hw => ?_⟩
    exact hr F3 H3 _ ws Q ((g.trans g2).trans g3) ((s.gr g2).gr g3) ((inferInstance : Mn (isLst Ps)).mn g3.fx hx) hw fun v F4 H4 g4 p => q v F4 H4 ((g2.trans g3).trans g4) p
theorem ints_of_isIs {F : Hp} {ns : List Int} {vs : List V} (h : PrL F (ns.map fun n => isV (.int n)) vs) : vs = ns.map V.int := by
  have : PrL F ((ns.map V.int).map isV) vs := by rw [List.map_map]; exact h
  exact this.isVs
theorem isIs_of {F : Hp} {ns : List Int} : PrL F (ns.map fun n => isV (.int n)) (ns.map V.int) := by
  have := PrL.of_isV (F := F) (ns.map V.int)
  rw [List.map_map] at this
  exact this
/-- ns.index(c) -/
theorem ev_index {t to : TE} {ns : List Int} {c : Int} (ho : EvP to σ F H (isIs ns)) (ht : EvP t σ F H (isV (.int c))) (hc : c ∈ ns) : EvP (tBM K "list" (rIndex K) to (tCons t tNil)) σ F H (isV (.int ((ns.idxOf c : Nat) : Int))) := by
  refine ev_bmL ho (mnl_map (fun _ => inferInstance) _) (ea_cons ht inferInstance ea_nil) fun F1 H1 x vs Q g s hx hv q => ?_
  obtain ⟨a, ws, rfl, ha, hw⟩ := hx
  cases hv with
  | cons h1 hv =>
    cases hv
    obtain rfl : _ = V.int c := h1
    rw [ints_of_isIs hw] at ha
    have hlt := List.idxOf_lt_length_of_mem hc
    refine ⟨a, ns.map V.int, .int c, ns.idxOf c, .int c, rfl, rfl, SqL.of (s.lst ha), rfl, ?_, ?_, by simp [eqV], fun i z hi hz => ?_, q _ F1 H1 Gr.refl rfl⟩
    · rw [List.all_map]; exact List.all_eq_true.mpr fun _ _ => rfl
    · rw [List.getElem?_map, List.getElem?_eq_getElem hlt, List.getElem_idxOf hlt]; rfl
    · rw [List.getElem?_map] at hz
      have hil : i < ns.length := by omega
      rw [List.getElem?_eq_getElem hil] at hz
      cases hz
      have : ns[i] ≠ c := by
        intro e
        have h3 := List.not_of_lt_findIdx (p := fun x => x == c) (xs := ns) (i := i) (by simpa [List.idxOf] using hi)
        simp [e] at h3
      simp [eqV, this]
/-- ns[j:] -/
theorem ev_from {te tl : TE} {ns : List Int} {j : Nat} (h : EvP te σ F H (isIs ns)) (hl : EvP tl σ F H (isV (.int (j : Nat)))) (hj : j ≤ ns.length) : EvP (tSl (rSlL K) te (tPart tl) tNoPart) σ F H (isIs (ns.drop j)) := fun F1 H1 g s Q q =>
  h F1 H1 g s _ fun x F2 H2 g2 hx => hl F2 H2 (g.trans g2) (s.gr g2) _ fun y F3 H3 g3 hy => by
    obtain ⟨a, ws, rfl, ha, hw⟩ := (inferInstance : Mn (isIs ns)).mn g3.fx hx
    rw [ints_of_isIs hw] at ha
    have s3 := (s.gr g2).gr g3
    refine ⟨(j : Int), hy, a, _, rfl, SqL.of (s3.lst ha), fun p hp => ?_⟩
    have f := s3.free hp
    have e : cutV (ns.map V.int) (some (j : Int)) none = (ns.drop j).map V.int := by
      unfold cutV
      rw [HT.sIx_none, HT.sIx_nat, List.length_map, Nat.min_eq_left hj, ← List.map_drop, List.take_of_length_le (by rw [List.length_map, List.length_drop]; exact Nat.le_refl _)]
    rw [e]
    exact q _ _ _ ((g2.trans g3).trans (Gr.newF hp f)) ⟨p, _, rfl, upd_same, isIs_of⟩
theorem ca_max {ns : List Int} (hn : ns ≠ []) : CaP (rMax K) [isIs ns] (isEx (fun M => isV (.int M)) fun M => M ∈ ns ∧ ∀ y ∈ ns, y ≤ M) F H := fun F1 H1 vs g s hp Q q => by
  cases hp with
  | cons h hp =>
    cases hp
    obtain ⟨a, ws, rfl, ha, hw⟩ := h
    rw [ints_of_isIs hw] at ha
    refine ⟨a, ns, rfl, SqL.of (s.lst ha), by cases ns with | nil => exact absurd rfl hn | cons _ _ => simp, fun M hM hM2 => q _ F1 H1 Gr.refl ⟨M, ⟨hM, hM2⟩, rfl⟩⟩
theorem ca_max2 {i j : Int} : CaP (fun xs H Q => ∃ i j, xs = [V.int i, V.int j] ∧ Q (.int (if j > i then j else i)) H) [isV (.int i), isV (.int j)] (isV (.int (max i j))) F H := ca_val fun F1 H1 vs g s hp Q q => by
  have e : vs = [.int i, .int j] := PrL.isVs (ws := [.int i, .int j]) hp
  refine ⟨i, j, e, ?_⟩
  have : (if j > i then j else i) = max i j := by
    rw [Int.max_def]
    split <;> split <;> omega
  rw [this]
  exact q
/-- x not in a list of one's own -/
theorem ev_notInO {tx tl : TE} {l : Addr} {ns : List Int} {c : Int} (hH : H l = some (.lst (ns.map V.int))) (hx : EvP tx σ F H (isV (.int c))) (hl : EvP tl σ F H (isV (.ref l))) : EvP (tOp (rIn K true) tx tl) σ F H (isV (.bl (!decide (c ∈ ns)))) := by
  refine ev_op hx hl inferInstance (op_val fun F1 H1 x y g s ha hb Q q => ?_)
  obtain rfl : x = .int c := ha
  obtain rfl : y = .ref l := hb
  refine ⟨l, ns.map V.int, rfl, .inl (SqL.of (g.ex _ _ hH)), rfl, by rw [List.all_map]; exact List.all_eq_true.mpr fun _ _ => rfl, ?_⟩
  rw [if_pos rfl, inV_int]
  exact q
theorem w_parLL {F0 H0 : Hp} {L : List (Addr × HO)} {D : Ends} {k : Lk} {i j : Nat} (W : Wr F0 H0 L F H k) (c : ∀ p q H1, Wr F0 H0 ((q, .lst []) :: (p, .lst []) :: L) F H1 k → D.nx ((σ.set i (some (.ref p))).set j (some (.ref q))) H1) :
    tPar i j (tCons (tLst tNil) (tCons (tLst tNil) tNil)) D σ H :=
  ⟨Nat.zero_le _, fun p hp => ⟨Nat.zero_le _, fun q hq => ⟨_, _, rfl, c p q _ ((W.new (o := .lst []) hp rfl).new (o := .lst []) hq rfl)⟩⟩⟩
end
abbrev pSS (u w : Str) : Pr := isTup [isV (.str u), isV (.str w)]
def spNR : Sp := fun vs H Q _ => ∃ (F : Hp) (al u w : Str) (vr : V), vs = [.str al, vr] ∧ Same F H ∧ pSS u w F vr ∧ (∀ c ∈ u.cps.toList, c ∈ al.cps.toList) ∧ (∀ c ∈ w.cps.toList, c ∈ al.cps.toList) ∧ w.cps.size ≠ 0 ∧ u.length ≤ 1000 ∧ w.length ≤ 1000 ∧ Ret F H (isV .non) Q
theorem sc_need_row : FnScope ["letters", "row", "prefix", "cycle", "sign"] ["letters", "row"] (defScope sNeedRow) := ⟨rfl, rfl, rfl, by decide +kernel, rfl, by decide +kernel, by decide +kernel⟩
section
variable {P : Program} {w : World} {K : PySem.W.Frag} {mg : Str → Option Value} {base : Heap}
theorem ok_need_row (E : Tops K mg) : Cal P w K mg base 1 "need_row" ["letters", "row"] spNR := by
  refine Cal.of E.f_NeedRow E.g_need_row sc_need_row (fun _ _ _ _ _ _ us hl => match us, hl with | [_, _], _ => rfl) (fun vs H Q Ex h => ?_) (fun cdv A outer s H vs Q Ex hr h => ?_)
  · obtain ⟨F, al, u, w, vr, rfl, _⟩ := h
    rfl
  · obtain ⟨F, al, u, ww, vr, rfl, s0, hv, hu, hw, hn, z1, z2, k⟩ := h
    refine ⟨_, (pss_cons (ps_asg (pv 1) (pg_tupK (K := K) (n := 2) rfl rfl (pgs_cons (pg_name (i := 2) sc_need_row.nd rfl (.inl rfl)) (pgs_cons (pg_name (i := 3) sc_need_row.nd rfl (.inl rfl)) pgs_nil))))
      (pss_one (ps_if (PW.pt (pw_or (pt_cmpR op_eq (pv 3) pe_str (nomark _)) (pw_or1 (pt_not (pt_val (pe_callB (cr_allK (K := K) rfl rfl) (by rfl) E.n_all bt_all (pa_cons (by exact pe_lc (own := [("sign", 4)]) rfl sc_need_row.nd (pi_str (pe_op op_add_str (pv 2) (pv 3))) (blkOk_by (N := ["letters", "row", "prefix", "cycle", "sign"]) (sc := defScope sNeedRow) (by decide +kernel)) (fun _ _ _ _ _ => (pg_name (i := 4) sc_need_row.nd rfl (.inl rfl))) (fun _ _ _ _ _ => pts_nil) (fun _ _ _ _ _ => (pe_cmpR op_in_sign (pv 4) (pv 0) rfl))) pa_nil)))))))
        (pss_one ps_never)
        pss_nil))), ?_⟩
    have W0 := Wr.start s0
    refine w_seq (w_asg W0 (ev_var (P := pSS u ww) rfl inferInstance hv) fun v1 F1 H1 g1 W1 h1 => ?_)
    refine tg_tup2 W1.sub h1 fun v2 v3 h2 h3 => ?_
    obtain rfl : v2 = .str u := h2
    obtain rfl : v3 = .str ww := h3
    dsimp only
    refine w_if (b := false) W1 ?_ (fun hb => by cases hb) fun _ F2 H2 g2 W2 => by
      show Q .non H2
      exact k _ F2 H2 W2.gr rfl
    have hcl : (u ++ ww).cps.toList = u.cps.toList ++ ww.cps.toList := Array.toList_append
    refine (et_or (a := false) (b := false) ((et_test (ev_op (ev_varV rfl) ev_c inferInstance (op_Eq rfl))).is (decide_eq_false fun z => ?_)) fun _ => (et_not (a := true) ((et_B (ev_cb (ea_cons (P := isLst ((u ++ ww).cps.toList.map fun _ => isV (.bl true))) (EvP.imp (ev_lc (p := fun _ => true) (q := fun _ => isV (.bl true)) (k := none) (ei_str (ev_op (ev_varV rfl) (ev_varV rfl) inferInstance (op_addS (by omega)))) (fun _ _ _ z => by cases z) (by rw [hcl, List.length_append, Array.length_toList, Array.length_toList]; show u.length + ww.length ≤ _; omega) (fun _ => inferInstance) fun c v F2 H2 hc g2 s2 hv2 Q2 hQ2 => ?_) fun F v h => ?_) inferInstance ea_nil) (ca_all (f := fun _ => true)))).is ?_)).is rfl)
    · injection z with z
      apply hn
      rw [z]
      rfl
    · obtain rfl : v = .str (sg c) := hv2
      refine hQ2 _ rfl et_yes fun _ => (ev_op (ev_varV rfl) (ev_varV rfl) inferInstance op_inSign).is ?_
      rw [hcl] at hc
      rw [decide_eq_true ((List.mem_append.mp hc).elim (hu c) (hw c))]
    · rw [List.filter_eq_self.mpr fun _ _ => rfl] at h
      exact h
    · exact List.all_eq_true.mpr fun _ _ => rfl
end
def spAcc (K : PySem.W.Frag) : Sp := fun vs H Q _ => ∃ (F : Hp) (m : Mach) (v vr : V) (u w : Str), vs = [v, vr] ∧ Same F H ∧ pM K m F v ∧ MOk m ∧ pSS u w F vr ∧ (∀ c ∈ u.cps.toList, c ∈ m.ls) ∧ (∀ c ∈ w.cps.toList, c ∈ m.ls) ∧ w.cps.size ≠ 0 ∧ u.length ≤ 1000 ∧ w.length ≤ 1000 ∧
  Ret F H (isEx (fun b => isV (.bl b)) (AccP m u.cps.toList w.cps.toList)) Q
theorem sc_m_accepts : FnScope ["self", "row", "prefix", "cycle", "state", "letter", "seen", "rounds", "greatest", "priority"] ["self", "row"] (defScope sMAccepts) := ⟨rfl, rfl, rfl, by decide +kernel, rfl, by decide +kernel, by decide +kernel⟩
section
variable {P : Program} {w : World} {K : PySem.W.Frag} {mg : Str → Option Value} {base : Heap}
theorem ok_maccepts (E : Tops K mg) : Cam P w K mg base 2 "accepts" ["self", "row"] (spAcc K) := by
  have c_need_row : Cal P w K mg base 1 "need_row" ["letters", "row"] spNR := ok_need_row E
  have c_mstep : Cam P w K mg base 1 "step" ["self", "state", "letter"] (spMStep K) := ok_mstep E
  refine Cam.of E.f_MAccepts E.cls E.m_accepts sc_m_accepts (fun _ _ _ _ _ _ us hl => match us, hl with | [_, _], _ => rfl) (fun vs H Q Ex h => ?_) (fun cdv A outer s H vs Q Ex hr h => ?_)
  · obtain ⟨F, m, v, vr, u, ww, rfl, _⟩ := h
    rfl
  · obtain ⟨F, m, v, vr, u, ww, rfl, s0, hm, ok, hvr, hu, hw, hn, z1, z2, k⟩ := h
    refine ⟨_, (pss_cons (ps_expr (pe_cal c_need_row (hr.mono (by decide)) rfl (pa_cons (pe_fldK (K := K) rfl (pv 0) rfl) (pa_cons (pv 1) pa_nil))))
      (pss_cons (ps_asg (pv 1) (pg_tupK (K := K) (n := 2) rfl rfl (pgs_cons (pg_name (i := 2) sc_m_accepts.nd rfl (.inl rfl)) (pgs_cons (pg_name (i := 3) sc_m_accepts.nd rfl (.inl rfl)) pgs_nil))))
      (pss_cons (ps_set (i := 4) sc_m_accepts.nd rfl (.inl rfl) (pe_fldK (K := K) rfl (pv 0) rfl))
      (pss_cons (ps_for PassesOwn.never rfl (pi_str (pv 2)) (pg_name (i := 5) sc_m_accepts.nd rfl (.inl rfl))
        (pss_one (ps_set (i := 4) sc_m_accepts.nd rfl (.inl rfl) (pe_ix (ix_tupK (K := K) rfl) (pe_camK (K := K) rfl c_mstep (hr.mono (by decide)) (pv 0) (pa_cons (pv 4) (pa_cons (pv 5) pa_nil))) pe_int (fun _ _ => rfl)))))
      (pss_cons (ps_par (i := 6) (j := 7) (by rfl) sc_m_accepts.nd rfl rfl (by decide) rfl rfl (pa_cons (pe_lst pa_nil) (pa_cons (pe_lst pa_nil) pa_nil)) (by rfl))
      (pss_cons (ps_while PassesOwn.never (pt_cmpR (op_notIn_seqK (K := K) rfl) (pv 4) (pv 6) rfl)
        (pss_cons (ps_expr (pe_bmK (K := K) rfl PySem.F.plainAttrs_list PySem.F.slot_list_append PySem.F.type_list_append mt_append (pv 6) (pa_cons (pv 4) pa_nil)))
        (pss_cons (ps_set (i := 8) sc_m_accepts.nd rfl (.inl rfl) pe_int)
        (pss_cons (ps_for PassesOwn.never rfl (pi_str (pv 3)) (pg_name (i := 5) sc_m_accepts.nd rfl (.inl rfl))
          (pss_cons (ps_asg (pe_camK (K := K) rfl c_mstep (hr.mono (by decide)) (pv 0) (pa_cons (pv 4) (pa_cons (pv 5) pa_nil))) (pg_tupK (K := K) (n := 2) rfl rfl (pgs_cons (pg_name (i := 4) sc_m_accepts.nd rfl (.inl rfl)) (pgs_cons (pg_name (i := 9) sc_m_accepts.nd rfl (.inl rfl)) pgs_nil))))
          (pss_one (ps_set (i := 8) sc_m_accepts.nd rfl (.inl rfl) (pe_callB (call_max2 rfl) (by rfl) E.n_max bt_max (pa_cons (pv 8) (pa_cons (pv 9) pa_nil)))))))
        (pss_one (ps_expr (pe_bmK (K := K) rfl PySem.F.plainAttrs_list PySem.F.slot_list_append PySem.F.type_list_append mt_append (pv 7) (pa_cons (pv 8) pa_nil))))))))
      (pss_one (ps_ret (pe_cmpR op_eq (pe_op op_mod (pe_callB (cr_maxK (K := K) rfl rfl) (by rfl) E.n_max bt_max (pa_cons (pe_slice (sl_listK (K := K) rfl) (pv 7) (po_some (pe_bmK (K := K) rfl PySem.F.plainAttrs_list PySem.F.slot_list_index PySem.F.type_list_index (mt_indexK (K := K) rfl) (pv 6) (pa_cons (pv 4) pa_nil))) po_none) pa_nil)) pe_int) pe_int (nomark _)))))))))), ?_⟩
    have W0 := Wr.start s0
    have t2 := ok.t2
    -- a step
    have estep : ∀ {σ : L2.St} {F' H' : Hp} {st : Int} {c : Nat}, Same F F' → Same F' H' → σ[0]? = some (some v) → σ[4]? = some (some (.int st)) → σ[5]? = some (some (.str (sg c))) → 0 ≤ st → st < m.tab.length → c ∈ m.ls →
        EvP (tMeth (MC K) "step" (spMStep K) [] E0 (tVar 0) (tCons (tVar 4) (tCons (tVar 5) tNil))) σ F' H' (Nd.nd (stp m st c)) := fun {σ F' H' st c} sF sH h0 h4 h5 l0 l1 hc => by
      refine ev_cam sH (ev_var h0 inferInstance ((inferInstance : Mn (pM K m)).mn sF hm)) (ea_cons (ev_varV h4) inferInstance (ea_cons (ev_varV h5) inferInstance ea_nil)) fun F1 H1 x vs Q1 g1 s1 hx hvs r1 => ?_
      cases hvs with
      | cons h1 hvs =>
        cases hvs with
        | cons h2 hvs =>
          cases hvs
          obtain rfl : _ = V.int st := h1
          obtain rfl : _ = V.str (sg c) := h2
          exact ⟨F1, m, x, st, c, rfl, s1, hx, ok, l0, l1, hc, r1⟩
    refine w_seq (w_drop W0 (P := isV .non) (ev_call s0 (ea_cons (ev_alph E (ev_var rfl inferInstance hm)) inferInstance (ea_cons (P := pSS u ww) (ev_var rfl inferInstance hvr) inferInstance ea_nil)) fun F1 H1 vs Q1 g1 s1 hvs r1 => ?_) fun F1 H1 g1 W1 => ?_)
    · cases hvs with
      | cons h1 hvs =>
        cases hvs with
        | cons h2 hvs =>
          cases hvs
          obtain rfl : _ = V.str m.al := h1
          exact ⟨F1, m.al, u, ww, _, rfl, s1, h2, hu, hw, hn, z1, z2, r1⟩
    refine w_seq (w_asg W1 (ev_var (P := pSS u ww) rfl inferInstance ((inferInstance : Mn (pSS u ww)).mn g1.fx hvr)) fun v1 F2 H2 g2 W2 h1 => ?_)
    refine tg_tup2 W2.sub h1 fun v2 v3 h2 h3 => ?_
    obtain rfl : v2 = .str u := h2
    obtain rfl : v3 = .str ww := h3
    have s2 := g1.fx.trans g2.fx
    refine w_seq (w_set W2 (ev_first E (ev_var rfl inferInstance ((inferInstance : Mn (pM K m)).mn s2 hm))) fun v4 F3 H3 g3 W3 e4 => ?_)
    obtain rfl : v4 = .int m.st := e4
    -- the prefix
    refine w_seq (w_forI (xs := u.cps.toList) (Y := fun _ c => isV (.str (sg c))) W3 (ei_str (ev_varV rfl)) fun F4 H4 g4 W4 => ?_)
    refine ⟨fun i σ' F' H' => ∃ v5 : Option V, σ' = [some v, some vr, some (.str u), some (.str ww), some (.int (run m m.st (u.cps.toList.take i))), v5, none, none, none, none] ∧ Wr F H [] F' H' none, ⟨_, rfl, W4⟩, ?_, ?_⟩
    · rintro i c vc σ' F' F5 H' H5 hi sF ⟨v5, rfl, W5⟩ g5 hvc
      obtain rfl : vc = .str (sg c) := hvc
      have W6 := W5.gro g5
      have s6 : Same F F5 := ((s2.trans (g3.trans g4).fx).trans sF).trans g5.fx
      have hc := hu c (List.mem_of_getElem? hi)
      have hr2 := run_rng ok (l := u.cps.toList.take i) ok.s1 ok.s2 fun d hd => hu d (List.mem_of_mem_take hd)
      refine w_set W6 (P := isV (.int (stp m (run m m.st (u.cps.toList.take i)) c).1)) (ev_op (Pa := isTup [isV (.int (stp m (run m m.st (u.cps.toList.take i)) c).1), isV (.int (stp m (run m m.st (u.cps.toList.take i)) c).2)]) (estep s6 W6.same rfl rfl rfl hr2.1 hr2.2 hc) ev_c inferInstance (op_ixT (by rfl))) fun v7 F7 H7 g7 W7 e7 => ?_
      obtain rfl : v7 = _ := e7
      refine ⟨F7, (sF.trans g5.fx).trans g7.fx, W7.sub, some (.str (sg c)), ?_, W7⟩
      rw [List.take_succ, hi]
      show _ = [some v, some vr, some (.str u), some (.str ww), some (.int (run m m.st (u.cps.toList.take i ++ [c]))), some (.str (sg c)), none, none, none, none]
      rw [run_snoc]
      rfl
    · rintro σ' F' H' sF ⟨v5, rfl, W5⟩
      have s5 : Same F F' := (s2.trans (g3.trans g4).fx).trans sF
      rw [List.take_length]
      generalize hst0 : run m m.st u.cps.toList = st0
      have hr0 : 0 ≤ st0 ∧ st0 < m.tab.length := by rw [← hst0]; exact run_rng ok ok.s1 ok.s2 hu
      generalize hwl : ww.cps.toList = wl at hw
      have hir := itr_rng (m := m) ok (w := wl) hr0.1 hr0.2 hw
      dsimp only
      -- seen, rounds = [], []
      refine w_seq (w_parLL W5 fun pS pR H6 W6 => ?_)
      refine w_seq (w_while (fun mu σ'' F'' H'' => ∃ (n : Nat) (v5 v8 v9 : Option V), σ'' = [some v, some vr, some (.str u), some (.str ww), some (.int (itr m st0 wl n)), v5, some (.ref pS), some (.ref pR), v8, v9] ∧ mu = m.tab.length - n ∧ Same F F'' ∧
          Wr F H [(pR, .lst (((List.range n).map (gk m st0 wl)).map V.int)), (pS, .lst (((List.range n).map (itr m st0 wl)).map V.int))] F'' H'' none ∧ ((List.range n).map (itr m st0 wl)).Nodup)
        W6.sub _ ⟨0, v5, none, none, rfl, rfl, s5, W6, by simp⟩ ?_)
      rintro mu σ'' F'' H'' sb ⟨n, v5, v8, v9, rfl, rfl, sF', W7, hnd⟩
      have hnl : n ≤ m.tab.length := by
        have := int_range hnd fun x hx => by
          obtain ⟨i, _, rfl⟩ := List.mem_map.mp hx
          exact hir i
        simpa using this
      refine ⟨_, et_test (ev_notInO (W7.at (j := 1) rfl) (ev_varV rfl) (ev_varV rfl)), fun hb F8 H8 g8 => ?_, fun hb F8 H8 g8 => ?_⟩
      · have W8 := W7.gro g8
        have hni : itr m st0 wl n ∉ (List.range n).map (itr m st0 wl) := by
          intro z
          rw [decide_eq_true z] at hb
          cases hb
        have hnd2 : ((List.range (n + 1)).map (itr m st0 wl)).Nodup := by
          rw [List.range_succ, List.map_append]
          exact nd_snoc hnd hni
        have hnl2 : n + 1 ≤ m.tab.length := by
          have := int_range hnd2 fun x hx => by
            obtain ⟨i, _, rfl⟩ := List.mem_map.mp hx
            exact hir i
          simpa using this
        refine w_seq (w_app W8 (j := 1) (P := isV (.int (itr m st0 wl n))) rfl (ev_varV rfl) (ev_varV rfl) (by simp; omega) fun va F9 H9 g9 W9 ea => ?_)
        obtain rfl : va = _ := ea
        dsimp only
        refine w_seq (w_set W9 ev_c fun v10 F10 H10 g10 W10 e10 => ?_)
        obtain rfl : v10 = .int 0 := e10
        have s10 : Same F F10 := ((sF'.trans g8.fx).trans g9.fx).trans g10.fx
        refine w_seq (w_forI (xs := ww.cps.toList) (Y := fun _ c => isV (.str (sg c))) W10 (ei_str (ev_varV rfl)) fun F11 H11 g11 W11 => ?_)
        refine ⟨fun i σ' F' H' => ∃ v5 v9 : Option V, σ' = [some v, some vr, some (.str u), some (.str ww), some (.int (run m (itr m st0 wl n) (wl.take i))), v5, some (.ref pS), some (.ref pR), some (.int (rmx m (itr m st0 wl n) 0 (wl.take i))), v9] ∧
          Wr F H [(pR, .lst (((List.range n).map (gk m st0 wl)).map V.int)), (pS, .lst (((List.range n).map (itr m st0 wl)).map V.int ++ [V.int (itr m st0 wl n)]))] F' H' none, ⟨_, _, rfl, W11⟩, ?_, ?_⟩
        · rintro i c vc σ' F' F12 H' H12 hi sF12 ⟨v5, v9, rfl, W12⟩ g12 hvc
          obtain rfl : vc = .str (sg c) := hvc
          rw [hwl] at hi
          have W13 := W12.gro g12
          have s13 : Same F F12 := ((s10.trans g11.fx).trans sF12).trans g12.fx
          have hc := hw c (List.mem_of_getElem? hi)
          have hr2 := run_rng ok (l := wl.take i) (hir n).1 (hir n).2 fun d hd => hw d (List.mem_of_mem_take hd)
          refine w_seq (w_asg W13 (P := isTup [isV (.int (stp m (run m (itr m st0 wl n) (wl.take i)) c).1), isV (.int (stp m (run m (itr m st0 wl n) (wl.take i)) c).2)]) (estep s13 W13.same rfl rfl rfl hr2.1 hr2.2 hc) fun v14 F14 H14 g14 W14 h14 => ?_)
          refine tg_tup2 W14.sub h14 fun va vb ha hb => ?_
          obtain rfl : va = _ := ha
          obtain rfl : vb = _ := hb
          refine w_set W14 (ev_cb (ea_cons (ev_varV rfl) inferInstance (ea_cons (ev_varV rfl) inferInstance ea_nil)) ca_max2) fun v15 F15 H15 g15 W15 e15 => ?_
          obtain rfl : v15 = _ := e15
          refine ⟨F15, ((sF12.trans g12.fx).trans g14.fx).trans g15.fx, W15.sub, some (.str (sg c)), some (.int (stp m (run m (itr m st0 wl n) (wl.take i)) c).2), ?_, W15⟩
          rw [List.take_succ, hi]
          show _ = [some v, some vr, some (.str u), some (.str ww), some (.int (run m (itr m st0 wl n) (wl.take i ++ [c]))), some (.str (sg c)), some (.ref pS), some (.ref pR), some (.int (rmx m (itr m st0 wl n) 0 (wl.take i ++ [c]))), some (.int (stp m (run m (itr m st0 wl n) (wl.take i)) c).2)]
          rw [run_snoc, rmx_snoc]
          rfl
        · rintro σ' F' H' sF12 ⟨v5, v9, rfl, W12⟩
          rw [hwl, List.take_length]
          dsimp only
          refine w_app W12 (j := 0) (P := isV (.int (gk m st0 wl n))) rfl (ev_varV rfl) (ev_varV rfl) (by simp; omega) fun va F13 H13 g13 W13 ea => ?_
          obtain rfl : va = _ := ea
          refine ⟨m.tab.length - (n + 1), F13, by omega, W13.sub, n + 1, _, _, _, rfl, rfl, ((s10.trans g11.fx).trans sF12).trans g13.fx, ?_, hnd2⟩
          have e1 : ((List.range (n + 1)).map (gk m st0 wl)).map V.int = ((List.range n).map (gk m st0 wl)).map V.int ++ [V.int (gk m st0 wl n)] := by rw [List.range_succ, List.map_append, List.map_append]; rfl
          have e2 : ((List.range (n + 1)).map (itr m st0 wl)).map V.int = ((List.range n).map (itr m st0 wl)).map V.int ++ [V.int (itr m st0 wl n)] := by rw [List.range_succ, List.map_append, List.map_append]; rfl
          rw [e1, e2]
          exact W13
      · have W8 := W7.gro g8
        have hin : itr m st0 wl n ∈ (List.range n).map (itr m st0 wl) := by
          by_cases z : itr m st0 wl n ∈ (List.range n).map (itr m st0 wl)
          · exact z
          · rw [decide_eq_false z] at hb
            cases hb
        generalize hsn : (List.range n).map (itr m st0 wl) = sn at W8 hin
        generalize hrn : (List.range n).map (gk m st0 wl) = rn at W8
        obtain ⟨W9, s9⟩ := W8.frz (j := 0) rfl (fun od u z => by cases z)
        obtain ⟨W10, s10⟩ := W9.frz (j := 0) rfl (fun od u z => by cases z)
        have hS : isIs sn (upd (upd F8 pR (.lst (rn.map V.int))) pS (.lst (sn.map V.int))) (.ref pS) := ⟨pS, _, rfl, upd_same, isIs_of⟩
        have hR : isIs rn (upd (upd F8 pR (.lst (rn.map V.int))) pS (.lst (sn.map V.int))) (.ref pR) := ⟨pR, _, rfl, s10 _ _ upd_same, isIs_of⟩
        generalize upd (upd F8 pR (.lst (rn.map V.int))) pS (.lst (sn.map V.int)) = F9 at W10 hS hR
        have hsl : sn.length = n := by rw [← hsn]; simp
        have hrl : rn.length = n := by rw [← hrn]; simp
        have hj := List.idxOf_lt_length_of_mem hin
        generalize hjd : sn.idxOf (itr m st0 wl n) = j at hj
        have hsj : sn[j]? = some (itr m st0 wl n) := by
          have h1 := List.idxOf_lt_length_of_mem hin
          subst hjd
          rw [List.getElem?_eq_getElem h1, List.getElem_idxOf h1]
        have hdr : rn.drop j ≠ [] := by
          intro z
          have := congrArg List.length z
          rw [List.length_drop] at this
          simp at this
          omega
        have eidx := ev_index (K := K) (σ := [some v, some vr, some (.str u), some (.str ww), some (.int (itr m st0 wl n)), v5, some (.ref pS), some (.ref pR), v8, v9]) (H := H8) (ev_var (i := 6) (P := isIs sn) rfl inferInstance hS) (ev_varV (i := 4) rfl) hin
        rw [hjd] at eidx
        dsimp only
        refine w_ret W10 (P := isEx (fun b => isV (.bl b)) (AccP m u.cps.toList wl)) ?_ fun v11 F11 H11 g11 W11 h11 => k v11 F11 H11 W11.gr (by rw [hwl]; exact h11)
        refine ev_op (Pa := isEx (fun M => isV (.int (M % 2))) fun M => M ∈ rn.drop j ∧ ∀ y ∈ rn.drop j, y ≤ M) (ev_op (Pa := isEx (fun M => isV (.int M)) fun M => M ∈ rn.drop j ∧ ∀ y ∈ rn.drop j, y ≤ M) (ev_cb (ea_cons (ev_from (ev_var (P := isIs rn) rfl inferInstance hR) eidx (by omega)) inferInstance ea_nil) (ca_max (K := K) hdr)) ev_c inferInstance ?_) ev_c inferInstance ?_
        · intro F12 H12 x y g12 s12 ⟨M, hM, hx⟩ hy Q12 q12
          exact ⟨M, 2, hx, hy, by show (0 : Int) < 2; decide, q12 _ F12 H12 Gr.refl ⟨M, hM, rfl⟩⟩
        · intro F12 H12 x y g12 s12 ⟨M, hM, hx⟩ hy Q12 q12
          obtain rfl : x = .int (M % 2) := hx
          obtain rfl : y = .int 0 := hy
          refine ⟨rfl, q12 _ F12 H12 Gr.refl ⟨decide (M % 2 = 0), ?_, ?_⟩⟩
          · have hdn : ∀ y, y ∈ rn.drop j ↔ ∃ i, j ≤ i ∧ i < n ∧ gk m st0 wl i = y := fun y => by
              rw [← hrn]
              constructor
              · intro hy
                obtain ⟨i, hi⟩ := List.getElem?_of_mem hy
                rw [List.getElem?_drop, List.getElem?_map] at hi
                cases q : (List.range n)[j + i]? with
                | none => rw [q] at hi; cases hi
                | some z =>
                  rw [q] at hi
                  have hz := (List.getElem?_eq_some_iff.mp q).1
                  rw [List.length_range] at hz
                  rw [List.getElem?_range hz] at q
                  cases q
                  exact ⟨j + i, by omega, hz, Option.some.inj hi⟩
              · rintro ⟨i, h1, h2, h3⟩
                refine List.mem_of_getElem? (i := i - j) ?_
                rw [List.getElem?_drop, List.getElem?_map, show j + (i - j) = i by omega, List.getElem?_range h2]
                rw [← h3]; rfl
            rw [hst0.symm] at hsj hdn
            refine ⟨j, n, M, by omega, ?_, ?_, fun i h1 h2 => ?_, rfl⟩
            · rw [← hsn, List.getElem?_map] at hsj
              rw [hst0] at hsj ⊢
              rw [List.getElem?_range (by omega)] at hsj
              exact Option.some.inj hsj
            · exact (hdn M).mp hM.1
            · exact hM.2 _ ((hdn _).mpr ⟨i, h1, h2, rfl⟩)
          · show V.bl _ = V.bl _
            congr 1
            by_cases z : M % 2 = 0
            · rw [decide_eq_true z, decide_eq_true (by rw [z])]
            · rw [decide_eq_false z, decide_eq_false (fun q => z (by injection q))]
end
end EL

set_option Elab.async false
set_option linter.all false
set_option maxRecDepth 100000
set_option maxHeartbeats 2000000
namespace EL
open PySem PySem.Spec PyProof.Rows L2
section
variable {K : PySem.W.Frag} {F0 H0 F H : Hp} {L : List (Addr × HO)} {σ : L2.St} {D : Ends} {k : Lk} {td ty te : TE} {tA : TA} {P P1 P2 : Pr}
/-- d[n] = [], a list of one's own -/
theorem w_dputL {N : Type} [DecidableEq N] [nn : Nd N] {j : Nat} {d : Addr} {l : List (N × V)} {n : N} (W : Wr F0 H0 L F H k) (hj : L[j]? = some (d, Nd.dic l)) (hn : (l.map (·.1)).Nodup) (hz : l.length < 100000) (hd : EvP td σ F H (isV (.ref d))) (hy : EvP ty σ F H (Nd.nd n))
    (c : ∀ q F1 H1, Same F F1 → Wr F0 H0 ((q, .lst []) :: L.set j (d, Nd.dic (putA l n (.ref q)))) F1 H1 k → D.nx σ H1) : sDPut td ty (tLst tNil) D σ H :=
  ⟨Nat.zero_le _, fun q hq => by
    have W1 := W.new (o := .lst []) hq rfl
    have hj1 : ((q, HO.lst []) :: L)[j + 1]? = some (d, Nd.dic l) := hj
    refine hd _ _ (Gr.new hq) W1.sub _ fun x F2 H2 g2 e => hy _ _ ((Gr.new hq).trans g2) (W1.sub.gr g2) _ fun y F3 H3 g3 py => ?_
    obtain rfl : x = .ref d := e
    have W3 := W1.gro (g2.trans g3)
    exact ⟨d, _, rfl, nn.put (W3.at hj1) hn W3.sub py (Nat.lt_of_lt_of_le hz (by decide)), c q F3 _ (g2.trans g3).fx (W3.set hj1 (isDct_notTup (nn.dct _)))⟩⟩
/-- a value that is known to be more -/
theorem EvP.kn {F H : Hp} {w : V} (h : EvP te σ F H (isV w)) (m : Mn P) (hp : P F w) : EvP te σ F H P := fun F1 H1 g s Q q => h F1 H1 g s _ fun v F2 H2 g2 e => by
  obtain rfl : v = w := e
  exact q v F2 H2 g2 (m.mn (g.trans g2).fx hp)
/-- x, y = e, f -/
theorem w_par {i j : Nat} (W : Wr F0 H0 L F H k) (h : EvA tA σ F H [P1, P2]) (c : ∀ v w F1 H1, Same F F1 → Wr F0 H0 L F1 H1 k → P1 F1 v → P2 F1 w → D.nx ((σ.set i (some v)).set j (some w)) H1) : tPar i j tA D σ H :=
  h F H Gr.refl W.sub _ fun vs F1 H1 g1 ps => by
    cases ps with
    | cons h1 ps =>
      cases ps with
      | cons h2 ps =>
        cases ps
        exact ⟨_, _, rfl, c _ _ F1 H1 g1.fx (W.gro g1) h1 h2⟩
/-- x, y = {}, [e] -/
theorem w_parDLx {N : Type} [DecidableEq N] [nn : Nd N] {i j : Nat} (W : Wr F0 H0 L F H k) (h : EvP te σ F H P) (c : ∀ p q v F1 H1, Same F F1 → Wr F0 H0 ((q, .lst [v]) :: (p, Nd.dic ([] : List (N × V))) :: L) F1 H1 k → P F1 v → D.nx ((σ.set i (some (.ref p))).set j (some (.ref q))) H1) :
    tPar i j (tCons nn.tnew (tCons (tLst (tCons te tNil)) tNil)) D σ H :=
  nn.tnew_eq σ H _ fun p hp => by
    have W1 := W.new hp (isDct_notTup (nn.dct []))
    refine h _ _ (Gr.new hp) W1.sub _ fun v F2 H2 g2 pv => ⟨(by decide : 1 ≤ sizeLine), fun q hq => ⟨_, _, rfl, c p q v F2 _ g2.fx ((W1.gro g2).new hq rfl) pv⟩⟩
end
/-! the product -/
def jadj (m m' : Mach) (p : Pt) : List (Tag × Pt) := m.ls.map fun c => ((sg c, (stp m p.1 c).2, (stp m' p.2 c).2), ((stp m p.1 c).1, (stp m' p.2 c).1))
inductive JR (m m' : Mach) : Pt → Prop
  | st : JR m m' (m.st, m'.st)
  | step {p : Pt} {c : Nat} : JR m m' p → c ∈ m.ls → JR m m' ((stp m p.1 c).1, (stp m' p.2 c).1)
structure JOk (m m' : Mach) (g : Gph Pt) : Prop where
  nd : (keys g).Nodup
  ks : ∀ p, p ∈ keys g ↔ JR m m' p
  ad : ∀ p ∈ keys g, adj g p = jadj m m' p
def InR (m m' : Mach) (p : Pt) : Prop := (0 ≤ p.1 ∧ p.1 < m.tab.length) ∧ 0 ≤ p.2 ∧ p.2 < m'.tab.length
theorem jadj_in {m m' : Mach} (ok : MOk m) (ok' : MOk m') (al : m'.al = m.al) {p : Pt} (h : InR m m' p) : ∀ e ∈ jadj m m' p, InR m m' e.2 ∧ ∃ c ∈ m.ls, e.2 = ((stp m p.1 c).1, (stp m' p.2 c).1) := fun e he => by
  obtain ⟨c, hc, rfl⟩ := List.mem_map.mp he
  have h1 := stp_rng ok h.1.1 h.1.2 hc
  have h2 := stp_rng ok' h.2.1 h.2.2 (c := c) (by show c ∈ m'.al.cps.toList; rw [al]; exact hc)
  exact ⟨⟨⟨h1.1, h1.2.1⟩, h2.1, h2.2.1⟩, c, hc, rfl⟩
theorem pairs_len {m m' : Mach} {l : List Pt} (h : l.Nodup) (r : ∀ p ∈ l, InR m m' p) : l.length ≤ m.tab.length * m'.tab.length := by
  have := nd_len h (m := (List.range m.tab.length).flatMap fun i => (List.range m'.tab.length).map fun j => (((i : Nat) : Int), ((j : Nat) : Int))) fun p hp => by
    obtain ⟨⟨h1, h2⟩, h3, h4⟩ := r p hp
    refine List.mem_flatMap.mpr ⟨p.1.toNat, List.mem_range.mpr (by omega), List.mem_map.mpr ⟨p.2.toNat, List.mem_range.mpr (by omega), ?_⟩⟩
    exact Prod.ext (by show ((p.1.toNat : Nat) : Int) = p.1; omega) (by show ((p.2.toNat : Nat) : Int) = p.2; omega)
  have e : ((List.range m.tab.length).flatMap fun i => (List.range m'.tab.length).map fun j => (((i : Nat) : Int), ((j : Nat) : Int))).length = m.tab.length * m'.tab.length := by
    rw [List.length_flatMap]
    have hs : ∀ n k : Nat, ((List.range n).map fun _ => k).sum = n * k := fun n k => by
      induction n with
      | zero => simp
      | succ n ih => rw [List.range_succ, List.map_append, List.sum_append, ih, Nat.succ_mul]; simp
    simp [hs]
  omega
structure JI (m m' : Mach) (ks line : List Pt) : Prop where
  nd : ks.Nodup
  jr : ∀ p, p ∈ ks ∨ p ∈ line → JR m m' p ∧ InR m m' p
  st : (m.st, m'.st) ∈ ks ∨ (m.st, m'.st) ∈ line
  cl : ∀ p ∈ ks, ∀ e ∈ jadj m m' p, e.2 ∈ ks ∨ e.2 ∈ line
theorem JI.start {m m' : Mach} (ok : MOk m) (ok' : MOk m') : JI m m' [] [(m.st, m'.st)] :=
  ⟨List.nodup_nil, fun p h => by
    have e : p = (m.st, m'.st) := by simpa using h
    rw [e]
    exact ⟨.st, ⟨ok.s1, ok.s2⟩, ok'.s1, ok'.s2⟩, .inr (by simp), fun p h => by cases h⟩
theorem JI.old {m m' : Mach} {ks line : List Pt} {p : Pt} (J : JI m m' ks (p :: line)) (h : p ∈ ks) : JI m m' ks line := by
  have sw : ∀ q, q ∈ ks ∨ q ∈ p :: line → q ∈ ks ∨ q ∈ line := fun q hq => hq.elim .inl fun z => (List.mem_cons.mp z).elim (fun e => .inl (e ▸ h)) .inr
  exact ⟨J.nd, fun q hq => J.jr q (hq.imp id fun z => List.mem_cons_of_mem _ z), sw _ J.st, fun q hq e he => sw _ (J.cl q hq e he)⟩
theorem JI.new {m m' : Mach} (ok : MOk m) (ok' : MOk m') (al : m'.al = m.al) {ks line : List Pt} {p : Pt} (J : JI m m' ks (p :: line)) (h : p ∉ ks) : JI m m' (ks ++ [p]) (line ++ (jadj m m' p).map (·.2)) := by
  obtain ⟨jp, ip⟩ := J.jr p (.inr List.mem_cons_self)
  have sw : ∀ q, q ∈ ks ∨ q ∈ p :: line → q ∈ ks ++ [p] ∨ q ∈ line ++ (jadj m m' p).map (·.2) := fun q hq => hq.elim (fun z => .inl (List.mem_append_left _ z)) fun z => (List.mem_cons.mp z).elim (fun e => .inl (by rw [e]; simp)) fun z => .inr (List.mem_append_left _ z)
  refine ⟨nd_snoc J.nd h, fun q hq => ?_, sw _ J.st, fun q hq e he => ?_⟩
  · rcases hq with z | z
    · rcases List.mem_append.mp z with z | z
      · exact J.jr q (.inl z)
      · rw [List.mem_singleton.mp z]; exact ⟨jp, ip⟩
    · rcases List.mem_append.mp z with z | z
      · exact J.jr q (.inr (List.mem_cons_of_mem _ z))
      · obtain ⟨e, he, rfl⟩ := List.mem_map.mp z
        obtain ⟨h1, c, hc, h2⟩ := jadj_in ok ok' al ip e he
        refine ⟨?_, h1⟩
        rw [h2]
        exact .step jp hc
  · rcases List.mem_append.mp hq with z | z
    · exact sw _ (J.cl q z e he)
    · rw [List.mem_singleton.mp z] at he
      exact .inr (List.mem_append_right _ (List.mem_map.mpr ⟨e, he, rfl⟩))
theorem JI.done {m m' : Mach} (ok : MOk m) (ok' : MOk m') (al : m'.al = m.al) {ks : List Pt} (J : JI m m' ks []) : ∀ p, p ∈ ks ↔ JR m m' p := fun p => by
  have sw : ∀ q, q ∈ ks ∨ q ∈ [] → q ∈ ks := fun q hq => hq.elim id fun z => by cases z
  refine ⟨fun h => (J.jr p (.inl h)).1, fun h => ?_⟩
  induction h with
  | st => exact sw _ J.st
  | @step p c _ hc ih => exact sw _ (J.cl p ih ((sg c, (stp m p.1 c).2, (stp m' p.2 c).2), ((stp m p.1 c).1, (stp m' p.2 c).1)) (List.mem_map.mpr ⟨c, hc, rfl⟩))
def spJE (K : PySem.W.Frag) : Sp := fun vs H Q _ => ∃ (F : Hp) (m m' : Mach) (v v' : V), vs = [v, v'] ∧ Same F H ∧ pM K m F v ∧ pM K m' F v' ∧ MOk m ∧ MOk m' ∧ m'.al = m.al ∧ Ret F H (isEx (fun g : Gph Pt => pG g) (JOk m m')) Q
theorem sc_joint_edges : FnScope ["one", "other", "edges", "line", "pair", "letter", "left", "right", "tag", "target"] ["one", "other"] (defScope sJointEdges) := ⟨rfl, rfl, rfl, by decide +kernel, rfl, by decide +kernel, by decide +kernel⟩
section
variable {P : Program} {w : World} {K : PySem.W.Frag} {mg : Str → Option Value} {base : Heap}
theorem ok_joint_edges (E : Tops K mg) : Cal P w K mg base 2 "joint_edges" ["one", "other"] (spJE K) := by
  have c_mstart : Cam P w K mg base 1 "start" ["self"] (spMSta K) := ok_mstart E
  have c_mletters : Cam P w K mg base 1 "letters" ["self"] (spMLet K) := ok_mletters E
  have c_mstep : Cam P w K mg base 1 "step" ["self", "state", "letter"] (spMStep K) := ok_mstep E
  refine Cal.of E.f_JointEdges E.g_joint_edges sc_joint_edges (fun _ _ _ _ _ _ us hl => match us, hl with | [_, _], _ => rfl) (fun vs H Q Ex h => ?_) (fun cdv A outer s H vs Q Ex hr h => ?_)
  · obtain ⟨F, m, m', v, v', rfl, _⟩ := h
    rfl
  · obtain ⟨F, m, m', v, v', rfl, s0, hm, hm', ok, ok', al, k⟩ := h
    refine ⟨_, (pss_cons (ps_par (i := 2) (j := 3) (by rfl) sc_joint_edges.nd rfl rfl (by decide) rfl rfl (pa_cons pe_dnewT (pa_cons (pe_lst (pa_cons (pe_tup (pa_cons (pe_cam0K (K := K) rfl c_mstart (hr.mono (by decide)) (pv 0)) (pa_cons (pe_cam0K (K := K) rfl c_mstart (hr.mono (by decide)) (pv 1)) pa_nil))) pa_nil)) pa_nil)) (by rfl))
      (pss_cons (ps_while PassesOwn.never (pt_cmpR (op_neNilK (K := K) rfl hr.units0) (pv 3) (pe_lst pa_nil) (nomark _))
        (pss_cons (ps_set (i := 4) sc_joint_edges.nd rfl (.inl rfl) (pe_bmK (K := K) rfl PySem.F.plainAttrs_list PySem.F.slot_list_pop PySem.F.type_list_pop mt_popAt (pv 3) (pa_cons pe_int pa_nil)))
        (pss_one (ps_if (pt_cmp (pc_dnotin (hu_of hr) (pv 4) (pv 2)))
          (pss_cons (ps_dput (hu_of hr) (pv 2) (pv 4) (pe_lst pa_nil) rfl)
          (pss_cons (ps_for PassesOwn.never rfl (pi_str (pe_cam0K (K := K) rfl c_mletters (hr.mono (by decide)) (pv 0))) (pg_name (i := 5) sc_joint_edges.nd rfl (.inl rfl))
            (pss_cons (ps_par (i := 6) (j := 7) (by rfl) sc_joint_edges.nd rfl rfl (by decide) rfl rfl (pa_cons (pe_camK (K := K) rfl c_mstep (hr.mono (by decide)) (pv 0) (pa_cons (pe_ix (ix_tupK (K := K) rfl) (pv 4) pe_int (fun _ _ => rfl)) (pa_cons (pv 5) pa_nil))) (pa_cons (pe_camK (K := K) rfl c_mstep (hr.mono (by decide)) (pv 1) (pa_cons (pe_ix (ix_tupK (K := K) rfl) (pv 4) pe_int (fun _ _ => rfl)) (pa_cons (pv 5) pa_nil))) pa_nil)) (by rfl))
            (pss_one (ps_expr (pe_bmK (K := K) rfl PySem.F.plainAttrs_list PySem.F.slot_list_append PySem.F.type_list_append mt_append (pe_dget (hu_of hr) (pv 2) (pv 4) (fun _ _ => rfl)) (pa_cons (pe_tup (pa_cons (pe_tup (pa_cons (pv 5) (pa_cons (pe_ix (ix_tupK (K := K) rfl) (pv 6) pe_int (fun _ _ => rfl)) (pa_cons (pe_ix (ix_tupK (K := K) rfl) (pv 7) pe_int (fun _ _ => rfl)) pa_nil)))) (pa_cons (pe_tup (pa_cons (pe_ix (ix_tupK (K := K) rfl) (pv 6) pe_int (fun _ _ => rfl)) (pa_cons (pe_ix (ix_tupK (K := K) rfl) (pv 7) pe_int (fun _ _ => rfl)) pa_nil))) pa_nil))) pa_nil))))))
          (pss_one (ps_expr (pe_bmK (K := K) rfl PySem.F.plainAttrs_list PySem.F.slot_list_extend PySem.F.type_list_extend mt_extend (pv 3) (pa_cons (by exact pe_lc (own := [("tag", 8), ("target", 9)]) rfl sc_joint_edges.nd (pi_listK (K := K) rfl (pe_dget (hu_of hr) (pv 2) (pv 4) (fun _ _ => rfl))) (blkOk_by (N := ["one", "other", "edges", "line", "pair", "letter", "left", "right", "tag", "target"]) (sc := defScope sJointEdges) (by decide +kernel)) (fun _ _ _ _ _ => (pg_tupK (K := K) (n := 2) rfl rfl (pgs_cons (pg_name (i := 8) sc_joint_edges.nd rfl (.inl rfl)) (pgs_cons (pg_name (i := 9) sc_joint_edges.nd rfl (.inl rfl)) pgs_nil)))) (fun _ _ _ _ _ => pts_nil) (fun _ _ _ _ _ => (pv 9))) pa_nil))))))
          pss_nil))))
      (pss_one (ps_ret (pv 2))))), ?_⟩
    have W0 := Wr.start s0
    have t2 := ok.t2
    have t2' := ok'.t2
    have hll : m.ls.length ≤ 3 := by show m.al.cps.toList.length ≤ 3; rw [Array.length_toList]; exact (alph_size ok.al).2
    have hnn : m.tab.length * m'.tab.length ≤ 9 := Nat.mul_le_mul t2 t2'
    have estart : ∀ {σ : L2.St} {F' H' : Hp} {i : Nat} {m : Mach} {v : V}, pM K m F' v → σ[i]? = some (some v) → EvP (tMeth (MC K) "start" (spMSta K) [] E0 (tVar i) tNil) σ F' H' (isV (.int m.st)) := fun {σ F' H' i m v} hm hi =>
      ev_camS (ev_var hi inferInstance hm) ea_nil fun F1 H1 x vs Q1 g1 s1 hx hvs r1 => by
        cases hvs
        exact ⟨F1, m, x, rfl, s1, hx, r1⟩
    have estep : ∀ {σ : L2.St} {F' H' : Hp} {i : Nat} {ts : TE} {m : Mach} {v : V} {st : Int} {c : Nat}, MOk m → pM K m F' v → Same F' H' → σ[i]? = some (some v) → EvP ts σ F' H' (isV (.int st)) → σ[5]? = some (some (.str (sg c))) → 0 ≤ st → st < m.tab.length → c ∈ m.ls →
        EvP (tMeth (MC K) "step" (spMStep K) [] E0 (tVar i) (tCons ts (tCons (tVar 5) tNil))) σ F' H' (Nd.nd (stp m st c)) := fun {σ F' H' i ts m v st c} ok hm sH h0 h4 h5 l0 l1 hc => by
      refine ev_cam sH (ev_var h0 inferInstance hm) (ea_cons h4 inferInstance (ea_cons (ev_varV h5) inferInstance ea_nil)) fun F1 H1 x vs Q1 g1 s1 hx hvs r1 => ?_
      cases hvs with
      | cons h1 hvs =>
        cases hvs with
        | cons h2 hvs =>
          cases hvs
          obtain rfl : _ = V.int st := h1
          obtain rfl : _ = V.str (sg c) := h2
          exact ⟨F1, m, x, st, c, rfl, s1, hx, ok, l0, l1, hc, r1⟩
    refine w_seq (w_parDLx (N := Pt) (P := Nd.nd ((m.st, m'.st) : Pt)) W0 (ev_tup (Ps := [isV (.int m.st), isV (.int m'.st)]) (ea_cons (estart hm rfl) inferInstance (ea_cons (estart hm' rfl) inferInstance ea_nil)) inferInstance) fun pD pL v0 F1 H1 s1 W1 h0 => ?_)
    refine w_seq (w_while (fun mu σ' F' H' => ∃ (ks line : List Pt) (kvs : List (Pt × V)) (vl : List V) (x4 x5 x6 x7 : Option V), σ' = [some v, some v', some (.ref pD), some (.ref pL), x4, x5, x6, x7, none, none] ∧ mu = 4 * (9 - ks.length) + line.length ∧ line.length ≤ 100 ∧ mu ≤ 40 ∧ Same F F' ∧
        Wr F H [(pL, .lst vl), (pD, Nd.dic kvs)] F' H' none ∧ kvs.map (·.1) = ks ∧ PrL F' (ks.map fun p => pEs (jadj m m' p)) (kvs.map (·.2)) ∧ PrL F' (line.map fun p => Nd.nd p) vl ∧ JI m m' ks line)
      W1.sub _ ⟨[], [(m.st, m'.st)], [], [v0], none, none, none, none, rfl, rfl, by simp, by simp, s1, W1, rfl, .nil, .one h0, JI.start ok ok'⟩ ?_)
    rintro mu σ' F' H' sb ⟨ks, line, kvs, vl, x4, x5, x6, x7, rfl, rfl, hl100, hmu, sF, W2, hk, hkv, hlv, J⟩
    refine ⟨_, et_neNil rfl (W2.at (j := 0) rfl), fun hb F3 H3 g3 => ?_, fun hb F3 H3 g3 => ?_⟩
    · have W3 := W2.gro g3
      cases line with
      | nil => cases hlv; cases hb
      | cons p line =>
        cases hlv with
        | @cons _ _ vp vl hvp hlv =>
        refine w_seq (w_pop0 W3 (j := 0) rfl rfl fun W4 => ?_)
        have hvp3 : Nd.nd p F3 vp := (inferInstance : Mn (Nd.nd p)).mn g3.fx hvp
        have hlv3 := (mnl_map (fun _ => inferInstance) _ : MnL (line.map fun p => Nd.nd p)).mn g3.fx hlv
        have hkv3 := (mnl_map (fun _ => inferInstance) _ : MnL (ks.map fun p => pEs (jadj m m' p))).mn g3.fx hkv
        obtain ⟨jp, ip⟩ := J.jr p (.inr List.mem_cons_self)
        have hks9 : ks.length ≤ 9 := Nat.le_trans (pairs_len J.nd fun q hq => (J.jr q (.inl hq)).2) hnn
        rw [List.length_cons] at hl100 hmu
        refine w_if W4 (et_B (ev_dninO (W4.at (j := 1) rfl) (ev_var rfl inferInstance hvp3) (ev_varV rfl))) (fun hb F5 H5 g5 W5 => ?_) (fun hb F5 H5 g5 W5 => ?_)
        · have hnp : p ∉ ks := by
            rw [← hk]
            intro z
            obtain ⟨w, hw⟩ := luk_some z
            rw [hw] at hb
            cases hb
          have J2 := J.new ok ok' al hnp
          have hks9' : ks.length + 1 ≤ 9 := by
            have := Nat.le_trans (pairs_len J2.nd fun q hq => (J2.jr q (.inl hq)).2) hnn
            rw [List.length_append, List.length_singleton] at this
            exact this
          have hkvl : kvs.length = ks.length := by rw [← hk, List.length_map]
          have hvp5 := (inferInstance : Mn (Nd.nd p)).mn g5.fx hvp3
          refine w_seq (w_dputL W5 (j := 1) (n := p) rfl (by rw [hk]; exact J.nd) (by omega) (ev_varV rfl) (ev_var rfl inferInstance hvp5) fun pE F6 H6 s6 W6 => ?_)
          have eput : putA kvs p (V.ref pE) = kvs ++ [(p, V.ref pE)] := put_new _ (luk_none.mpr (by rw [hk]; exact hnp))
          have W6 : Wr F H [(pE, .lst []), (pL, .lst vl), (pD, Nd.dic (kvs ++ [(p, V.ref pE)]))] F6 H6 none := by rw [← eput]; exact W6
          have hlk : luk (kvs ++ [(p, V.ref pE)]) p = some (V.ref pE) := by rw [← eput, luk_put, if_pos rfl]
          have hvp6 := (inferInstance : Mn (Nd.nd p)).mn s6 hvp5
          have s06 : Same F F6 := ((sF.trans g3.fx).trans g5.fx).trans s6
          have hm6 := (inferInstance : Mn (pM K m)).mn s06 hm
          dsimp only
          refine w_seq (w_forI (xs := m.ls) (Y := fun _ c => isV (.str (sg c))) W6 (ei_str (ev_camS (ev_var rfl inferInstance hm6) ea_nil fun F1 H1 x vs Q1 g1 s1 hx hvs r1 => by
            cases hvs
            exact ⟨F1, m, x, rfl, s1, hx, r1⟩)) fun F7 H7 g7 W7 => ?_)
          refine ⟨fun i σ' F' H' => ∃ (ve : List V) (x5 x6 x7 : Option V), σ' = [some v, some v', some (.ref pD), some (.ref pL), some vp, x5, x6, x7, none, none] ∧ Wr F H [(pE, .lst ve), (pL, .lst vl), (pD, Nd.dic (kvs ++ [(p, V.ref pE)]))] F' H' none ∧ PrL F' (((jadj m m' p).take i).map (EL.pE (N := Pt))) ve, ⟨[], _, _, _, rfl, W7, by simp; exact .nil⟩, ?_, ?_⟩
          · rintro i c vc σ' F' F8 H' H8 hi sF8 ⟨ve, x5, x6, x7, rfl, W8, hve⟩ g8 hvc
            obtain rfl : vc = .str (sg c) := hvc
            have W9 := W8.gro g8
            have s9 : Same F6 F8 := (g7.fx.trans sF8).trans g8.fx
            have hc := List.mem_of_getElem? hi
            have hc' : c ∈ m'.ls := by show c ∈ m'.al.cps.toList; rw [al]; exact hc
            have hvp9 := (inferInstance : Mn (Nd.nd p)).mn s9 hvp6
            have hm9 := (inferInstance : Mn (pM K m)).mn s9 hm6
            have hm9' := (inferInstance : Mn (pM K m')).mn (s06.trans s9) hm'
            have hve9 := (mnl_map (fun _ => inferInstance) _ : MnL (((jadj m m' p).take i).map (EL.pE (N := Pt)))).mn g8.fx hve
            refine w_seq (w_par W9 (P1 := isTup [isV (.int (stp m p.1 c).1), isV (.int (stp m p.1 c).2)]) (P2 := isTup [isV (.int (stp m' p.2 c).1), isV (.int (stp m' p.2 c).2)])
              (ea_cons (estep ok hm9 W9.same rfl (ev_op (Pa := isTup [isV (.int p.1), isV (.int p.2)]) (ev_var rfl inferInstance hvp9) ev_c inferInstance (op_ixT (by rfl))) rfl ip.1.1 ip.1.2 hc) inferInstance
              (ea_cons (estep ok' hm9' W9.same rfl (ev_op (Pa := isTup [isV (.int p.1), isV (.int p.2)]) (ev_var rfl inferInstance hvp9) ev_c inferInstance (op_ixT (by rfl))) rfl ip.2.1 ip.2.2 hc') inferInstance ea_nil)) fun vL vR F10 H10 s10 W10 hL hR => ?_)
            have hvp10 := (inferInstance : Mn (Nd.nd p)).mn s10 hvp9
            have hvel : ve.length ≤ 3 := by
              have := hve.length
              rw [List.length_map, List.length_take] at this
              have h2 : (jadj m m' p).length = m.ls.length := by unfold jadj; rw [List.length_map]
              omega
            have ix : ∀ {j : Nat} {va : V} {a b : Int} {σ : L2.St}, isTup [isV (.int a), isV (.int b)] F10 va → σ[j]? = some (some va) → EvP (tOp (rIxT K) (tVar j) (tC (.int 0))) σ F10 H10 (isV (.int a)) ∧ EvP (tOp (rIxT K) (tVar j) (tC (.int 1))) σ F10 H10 (isV (.int b)) := fun {j va a b σ} h e =>
              ⟨ev_op (ev_var e inferInstance h) ev_c inferInstance (op_ixT (by rfl)), ev_op (ev_var e inferInstance h) ev_c inferInstance (op_ixT (by rfl))⟩
            refine w_app W10 (j := 0) (P := EL.pE (N := Pt) ((sg c, (stp m p.1 c).2, (stp m' p.2 c).2), ((stp m p.1 c).1, (stp m' p.2 c).1))) rfl (ev_dgetO (W10.at (j := 2) rfl) (ev_varV rfl) (ev_var rfl inferInstance hvp10) hlk)
              (ev_tup (Ps := [pTag (sg c, (stp m p.1 c).2, (stp m' p.2 c).2), Nd.nd (((stp m p.1 c).1, (stp m' p.2 c).1) : Pt)]) (ea_cons (ev_tup (Ps := [isV (.str (sg c)), isV (.int (stp m p.1 c).2), isV (.int (stp m' p.2 c).2)]) (ea_cons (ev_varV rfl) inferInstance (ea_cons (ix hL rfl).2 inferInstance (ea_cons (ix hR rfl).2 inferInstance ea_nil))) inferInstance) inferInstance
                (ea_cons (ev_tup (Ps := [isV (.int (stp m p.1 c).1), isV (.int (stp m' p.2 c).1)]) (ea_cons (ix hL rfl).1 inferInstance (ea_cons (ix hR rfl).1 inferInstance ea_nil)) inferInstance) inferInstance ea_nil)) inferInstance) (by omega) fun va F11 H11 g11 W11 ha => ?_
            refine ⟨F11, ((sF8.trans g8.fx).trans s10).trans g11.fx, W11.sub, ve ++ [va], _, _, _, rfl, W11, ?_⟩
            have hji : (jadj m m' p)[i]? = some ((sg c, (stp m p.1 c).2, (stp m' p.2 c).2), ((stp m p.1 c).1, (stp m' p.2 c).1)) := by unfold jadj; rw [List.getElem?_map, hi]; rfl
            rw [List.take_succ, hji, List.map_append]
            exact ((mnl_map (fun _ => inferInstance) _ : MnL (((jadj m m' p).take i).map (EL.pE (N := Pt)))).mn (s10.trans g11.fx) hve9).append (.one ha)
          · rintro σ' F' H' sF8 ⟨ve, x5, x6, x7, rfl, W8, hve⟩
            have hjl : (jadj m m' p).length = m.ls.length := by unfold jadj; rw [List.length_map]
            rw [List.take_of_length_le (by omega)] at hve
            obtain ⟨W9, s9⟩ := W8.frz (j := 0) rfl (fun od u z => by cases z)
            have hE : pEs (jadj m m' p) (upd F' pE (.lst ve)) (.ref pE) := ⟨pE, ve, rfl, upd_same, (mnl_map (fun _ => inferInstance) _ : MnL ((jadj m m' p).map (EL.pE (N := Pt)))).mn s9 hve⟩
            generalize upd F' pE (.lst ve) = F9 at W9 s9 hE
            have s69 : Same F6 F9 := (g7.fx.trans sF8).trans s9
            have hvp9 := (inferInstance : Mn (Nd.nd p)).mn s69 hvp6
            have hvl : vl.length = line.length := by have := hlv.length; simpa using this
            dsimp only
            refine w_ext W9 (j := 0) (Ps := (jadj m m' p).map fun e => Nd.nd e.2) rfl (ev_varV rfl) (EvP.imp (ev_lc (p := fun _ => true) (q := fun e : Tag × Pt => Nd.nd e.2) (k := none) (ei_list (f := EL.pE (N := Pt)) (xs := jadj m m' p) (EvP.kn (ev_dgetO (W9.at (j := 1) rfl) (ev_varV rfl) (ev_var rfl inferInstance hvp9) hlk) inferInstance hE) fun _ => inferInstance) (fun _ _ _ z => by cases z) (by omega) (fun _ => inferInstance) fun e ve2 F10 H10 _ g10 s10 he Q10 hQ10 => ?_) fun F v h => ?_) (by rw [List.length_map]; omega) fun vs10 F10 H10 g10 W10 hvs10 => ?_
            · exact tg_tup2 s10 he fun v1 v2 h1 h2 => hQ10 _ rfl et_yes fun _ => ev_var (P := Nd.nd e.2) rfl inferInstance h2
            · rw [List.filter_eq_self.mpr fun _ _ => rfl] at h
              exact h
            · have s010 : Same F3 F10 := ((g5.fx.trans s6).trans s69).trans g10.fx
              refine ⟨4 * (9 - (ks ++ [p]).length) + (line ++ (jadj m m' p).map (·.2)).length, F10, ?_, W10.sub, ks ++ [p], line ++ (jadj m m' p).map (·.2), kvs ++ [(p, V.ref pE)], vl ++ vs10, _, _, _, _, rfl, rfl, ?_, ?_, (sF.trans g3.fx).trans s010, W10, ?_, ?_, ?_, J2⟩
              · rw [List.length_append, List.length_append, List.length_singleton, List.length_map, List.length_cons]; omega
              · rw [List.length_append, List.length_map]; omega
              · rw [List.length_append, List.length_append, List.length_singleton, List.length_map]; omega
              · rw [List.map_append, hk]; rfl
              · rw [List.map_append, List.map_append]
                exact ((mnl_map (fun _ => inferInstance) _ : MnL (ks.map fun p => pEs (jadj m m' p))).mn s010 hkv3).append (.one ((inferInstance : Mn (pEs (jadj m m' p))).mn g10.fx hE))
              · rw [List.map_append, List.map_map]
                exact ((mnl_map (fun _ => inferInstance) _ : MnL (line.map fun p => Nd.nd p)).mn s010 hlv3).append hvs10
        · have hip : p ∈ ks := by
            rw [← hk]
            cases q : luk kvs p with
            | none => rw [q] at hb; cases hb
            | some w => exact luk_key q
          refine ⟨4 * (9 - ks.length) + line.length, F5, by rw [List.length_cons]; omega, W5.sub, ks, line, kvs, vl, _, _, _, _, rfl, rfl, by omega, by omega, (sF.trans g3.fx).trans g5.fx, W5, hk, (mnl_map (fun _ => inferInstance) _ : MnL (ks.map fun p => pEs (jadj m m' p))).mn g5.fx hkv3, (mnl_map (fun _ => inferInstance) _ : MnL (line.map fun p => Nd.nd p)).mn g5.fx hlv3, J.old hip⟩
    · have W3 := W2.gro g3
      cases line with
      | cons p line =>
        cases hlv
        cases hb
      | nil =>
        obtain ⟨W4, s4⟩ := W3.frz (j := 1) rfl (fun od u z => by
          have := ndPair.dct kvs
          rw [z] at this
          cases this)
        refine w_ret W4 (ev_varV rfl) fun v5 F5 H5 g5 W5 e => ?_
        obtain rfl : v5 = _ := e
        let g : Gph Pt := ks.map fun p => (p, jadj m m' p)
        have hkg : keys g = ks := by show (ks.map _).map _ = ks; rw [List.map_map]; exact List.map_id _
        refine k _ F5 H5 W5.gr ⟨g, ⟨by rw [hkg]; exact J.nd, fun p => by rw [hkg]; exact J.done ok ok' al p, fun p hp => ?_⟩, ?_⟩
        · rw [hkg] at hp
          have : luk g p = some (jadj m m' p) := luk_of_mem (by show (keys g).Nodup; rw [hkg]; exact J.nd) (List.mem_map.mpr ⟨p, hp, rfl⟩)
          unfold adj
          rw [this]
          rfl
        · refine (inferInstance : Mn (pG g)).mn g5.fx ⟨pD, kvs, rfl, upd_same, ?_, ?_, ?_⟩
          · rw [map_fst_pG, hkg]; exact hk
          · rw [map_fst_pG, hkg]; exact J.nd
          · rw [map_snd_pG]
            show PrL _ ((ks.map _).map _) _
            rw [List.map_map]
            exact (mnl_map (fun _ => inferInstance) _ : MnL (ks.map fun p => pEs (jadj m m' p))).mn (g3.fx.trans s4) hkv
end
end EL

set_option Elab.async false
set_option linter.all false
set_option maxRecDepth 100000
set_option maxHeartbeats 2000000
namespace EL
open PySem PySem.Spec PyProof.Rows L2
theorem sum_sg (cs : List Nat) : ((cs.map sg).map (·.length)).sum = cs.length := by
  rw [List.map_map]
  induction cs with
  | nil => rfl
  | cons c r ih => rw [List.map_cons, List.sum_cons, ih, List.length_cons]; show 1 + _ = _; omega
theorem join_sg (cs : List Nat) : Txt.join "" (cs.map sg) = ⟨cs.toArray⟩ := by
  rw [show Txt.join "" (cs.map sg) = Str.join "" (cs.map sg) from StrLaws.glued_eq_join _ _]
  have key : ∀ cs : List Nat, (Str.join "" (cs.map sg)).cps.toList = cs := by
    intro cs
    induction cs with
    | nil => rfl
    | cons c r ih =>
      cases r with
      | nil => rfl
      | cons d r =>
        show (sg c ++ ("" : Str) ++ Str.join "" ((d :: r).map sg)).cps.toList = _
        have e1 : (sg c ++ ("" : Str) ++ Str.join "" ((d :: r).map sg)).cps = (sg c).cps ++ ("" : Str).cps ++ (Str.join "" ((d :: r).map sg)).cps := rfl
        rw [e1, Array.toList_append, Array.toList_append, ih]
        rfl
  have e := key cs
  generalize Str.join "" (cs.map sg) = x at e
  obtain ⟨a⟩ := x
  have : a = cs.toArray := by rw [← e]
  rw [this]
section
variable {K : PySem.W.Frag} {F H : Hp} {σ : L2.St}
/-- ''.join(single signs) -/
theorem ev_joinSg {to te : TE} {cs : List Nat} (ho : EvP to σ F H (isV (.str ""))) (he : EvP te σ F H (isLst (cs.map fun c => isV (.str (sg c))))) (hz : cs.length ≤ 100000) :
    EvP (tM1 (fun x xs H Q => ∃ a p, ∃ ys : List Str, x = .str a ∧ xs = [.ref p] ∧ (SqL K H p (ys.map V.str) ∨ SqT K H p (ys.map V.str)) ∧ (ys.map (·.length)).sum + ys.length * a.length ≤ 16777216 ∧ Q (.str (Txt.join a ys)) H) to te) σ F H (isV (.str ⟨cs.toArray⟩)) := fun F1 H1 g s Q q =>
  ho F1 H1 g s _ fun v F2 H2 g2 e => by
    obtain rfl : v = .str "" := e
    refine ⟨⟨_, rfl⟩, he F2 H2 (g.trans g2) (s.gr g2) _ fun y F3 H3 g3 ⟨a, ws, e, ha, hw⟩ => ?_⟩
    have ew : ws = (cs.map sg).map V.str := by
      have : PrL F3 (((cs.map sg).map V.str).map isV) ws := by rw [List.map_map, List.map_map]; exact hw
      exact this.isVs
    rw [ew] at ha
    have s3 := (s.gr g2).gr g3
    refine ⟨"", a, cs.map sg, rfl, by rw [e], .inl (SqL.of (s3.lst ha)), ?_, ?_⟩
    · have h1 := sum_sg cs
      have h2 : ("" : Str).length = 0 := rfl
      rw [h1, h2, Nat.mul_zero]
      omega
    · rw [join_sg]
      exact q _ F3 H3 (g2.trans g3) rfl
theorem cutS_to (x : Str) (k : Nat) : (cutS x none (some (k : Int))).length = min k x.length := by
  unfold cutS
  rw [HT.sIx_none, HT.sIx_nat]
  show ((x.cps.toList.drop 0).take (min k x.length - 0)).toArray.size = _
  rw [List.size_toArray, List.length_take, List.drop_zero, Array.length_toList]
  show min _ x.length = _
  omega
/-- x[:k], x[:-1] of a text -/
theorem ev_cut {te tl th : TO} {tx : TE} {x : Str} {lo hi : Option Int} (hx : EvP tx σ F H (isV (.str x))) (hl : EvO tl σ F H lo) (hh : EvO th σ F H hi) (hz : x.length ≤ 100000) : EvP (tSl rSlS tx tl th) σ F H (isV (.str (cutS x lo hi))) := fun F1 H1 g s Q q =>
  hx F1 H1 g s _ fun v F2 H2 g2 e => hl F2 H2 (g.trans g2) (s.gr g2) _ fun F3 H3 g3 => hh F3 H3 ((g.trans g2).trans g3) ((s.gr g2).gr g3) _ fun F4 H4 g4 => ⟨x, e, Nat.le_trans hz (by decide), q _ F4 H4 ((g2.trans g3).trans g4) rfl⟩
theorem eo_none : EvO tNoPart σ F H none := fun F1 H1 _ _ Q q => q F1 H1 Gr.refl
theorem eo_some {te : TE} {i : Int} (h : EvP te σ F H (isV (.int i))) : EvO (tPart te) σ F H (some i) := fun F1 H1 g s Q q => h F1 H1 g s _ fun v F2 H2 g2 e => ⟨i, e, q F2 H2 g2⟩
theorem ev_neg1 {te : TE} {i : Int} (h : EvP te σ F H (isV (.int i))) : EvP (tUn (rU fun i => .int (-i)) te) σ F H (isV (.int (-i))) := fun F1 H1 g s Q q => h F1 H1 g s _ fun v F2 H2 g2 e => ⟨i, e, q _ F2 H2 g2 rfl⟩
end
def spSC : Sp := fun vs H Q _ => ∃ (F : Hp) (x : Str), vs = [.str x] ∧ Same F H ∧ 1 ≤ x.length ∧ x.length ≤ 1000 ∧ Ret F H (isEx (fun y : Str => isV (.str y)) fun y => 1 ≤ y.length ∧ y.length ≤ x.length) Q
theorem sc_shortest_cycle : FnScope ["cycle", "size"] ["cycle"] (defScope sShortestCycle) := ⟨rfl, rfl, rfl, by decide +kernel, rfl, by decide +kernel, by decide +kernel⟩
section
variable {P : Program} {w : World} {K : PySem.W.Frag} {mg : Str → Option Value} {base : Heap}
theorem ok_shortest_cycle (E : Tops K mg) : Cal P w K mg base 1 "shortest_cycle" ["cycle"] spSC := by
  refine Cal.of E.f_ShortestCycle E.g_shortest_cycle sc_shortest_cycle (fun _ _ _ _ _ _ us hl => match us, hl with | [_], _ => rfl) (fun vs H Q Ex h => ?_) (fun cdv A outer s H vs Q Ex hr h => ?_)
  · obtain ⟨F, x, rfl, _⟩ := h
    rfl
  · obtain ⟨F, x, rfl, s0, h1, hz, k⟩ := h
    refine ⟨_, (pss_cons (ps_for PassesOwn.never rfl (pi_range2 (by rfl) E.n_range (pa_cons pe_int (pa_cons (pe_op op_add (pe_callB call_len_str (by rfl) E.n_len bt_len (pa_cons (pv 0) pa_nil)) pe_int) pa_nil))) (pg_name (i := 1) sc_shortest_cycle.nd rfl (.inl rfl))
        (pss_one (ps_if (PW.pt (pw_and (pt_cmpR op_eq (pe_op op_modN (pe_callB call_len_str (by rfl) E.n_len bt_len (pa_cons (pv 0) pa_nil)) (pv 1)) pe_int (nomark _)) (pw_and1 (pt_cmpR op_eq (pe_op op_repS1 (pe_slice sl_str (pv 0) po_none (po_some (pv 1))) (pe_op op_fdivN (pe_callB call_len_str (by rfl) E.n_len bt_len (pa_cons (pv 0) pa_nil)) (pv 1))) (pv 0) (nomark _)))))
          (pss_one (ps_ret (pe_slice sl_str (pv 0) po_none (po_some (pv 1)))))
          pss_nil)))
      (pss_one (ps_ret (pv 0)))), ?_⟩
    have W0 := Wr.start s0
    have elen : ∀ {F1 H1 : Hp} {v1 : Option V}, EvP (tCB (fun xs H Q => ∃ z, xs = [V.str z] ∧ z.length ≤ sizeLine ∧ Q (.int z.length) H) (tCons (tVar 0) tNil)) [some (.str x), v1] F1 H1 (isV (.int (x.length : Nat))) := ev_cb (ea_cons (ev_varV rfl) inferInstance ea_nil) (ca_lenS (by omega))
    refine w_seq (w_forR2 (lo := 1) (n := (x.length : Int) + 1) W0 (ea_cons ev_c inferInstance (ea_cons (ev_op elen ev_c inferInstance op_I0) inferInstance ea_nil)) (by omega) fun F1 H1 g1 W1 => ?_)
    refine ⟨fun i σ' F' H' => ∃ v1 : Option V, σ' = [some (.str x), v1] ∧ Wr F H [] F' H' none, ⟨_, rfl, W1⟩, ?_, ?_⟩
    · rintro i σ' F' H' hi sF ⟨v1, rfl, W2⟩
      have hsz : ((1 : Int) + (i : Int)) = ((i + 1 : Nat) : Int) := by omega
      rw [hsz]
      have hi2 : i + 1 ≤ x.length := by omega
      have ecut : ∀ {F1 H1 : Hp}, EvP (tSl rSlS (tVar 0) tNoPart (tPart (tVar 1))) [some (.str x), some (.int ((i + 1 : Nat) : Int))] F1 H1 (isV (.str (cutS x none (some ((i + 1 : Nat) : Int))))) := ev_cut (te := tNoPart) (ev_varV rfl) eo_none (eo_some (ev_varV rfl)) (by omega)
      have hcl : (cutS x none (some ((i + 1 : Nat) : Int))).length = i + 1 := by rw [cutS_to]; omega
      generalize hc : cutS x none (some ((i + 1 : Nat) : Int)) = c at ecut hcl
      have e1 : ∀ {F1 H1 : Hp}, EvP (tOp (rI (fun _ j => j ≠ 0) fun i j => .int (i.fmod j)) (tCB (fun xs H Q => ∃ z, xs = [V.str z] ∧ z.length ≤ sizeLine ∧ Q (.int z.length) H) (tCons (tVar 0) tNil)) (tVar 1)) [some (.str x), some (.int ((i + 1 : Nat) : Int))] F1 H1 (isV (.int ((x.length : Int).fmod ((i + 1 : Nat) : Int)))) := ev_op elen (ev_varV rfl) inferInstance (op_I (by omega))
      have e2 : ∀ {F1 H1 : Hp}, EvP (tOp (rI CDivN fun i j => .int (i.fdiv j)) (tCB (fun xs H Q => ∃ z, xs = [V.str z] ∧ z.length ≤ sizeLine ∧ Q (.int z.length) H) (tCons (tVar 0) tNil)) (tVar 1)) [some (.str x), some (.int ((i + 1 : Nat) : Int))] F1 H1 (isV (.int ((x.length : Int).fdiv ((i + 1 : Nat) : Int)))) := ev_op elen (ev_varV rfl) inferInstance (op_I ⟨by omega, by omega⟩)
      have hfd : (x.length : Int).fdiv ((i + 1 : Nat) : Int) = ((x.length / (i + 1) : Nat) : Int) := by
        rw [Int.fdiv_eq_ediv_of_nonneg _ (by omega)]; rfl
      rw [hfd] at e2
      generalize hq : x.length / (i + 1) = q at e2
      have hq1 : 1 ≤ q := by rw [← hq]; exact Nat.div_pos hi2 (by omega)
      have hq2 : (i + 1) * q ≤ x.length := by rw [← hq]; exact Nat.mul_div_le _ _
      have hq3 : q ≤ x.length := Nat.le_trans (Nat.le_mul_of_pos_left _ (by omega)) hq2
      have e3 : ∃ z : Str, ∀ {F1 H1 : Hp}, EvP (tOp (fun x y H Q => rRepS x y H Q ∨ ∃ a, x = .str a ∧ y = .int 1 ∧ Q (.str a) H) (tSl rSlS (tVar 0) tNoPart (tPart (tVar 1))) (tOp (rI CDivN fun i j => .int (i.fdiv j)) (tCB (fun xs H Q => ∃ z, xs = [V.str z] ∧ z.length ≤ sizeLine ∧ Q (.int z.length) H) (tCons (tVar 0) tNil)) (tVar 1))) [some (.str x), some (.int ((i + 1 : Nat) : Int))] F1 H1 (isV (.str z)) := by
        by_cases q1 : q = 1
        · refine ⟨c, fun {F1 H1} => ev_op ecut e2 inferInstance (op_val fun _ _ _ _ _ _ ha hb Q q' => .inr ⟨c, ha, by rw [hb, q1]; rfl, q'⟩)⟩
        · exact ⟨strRep c q, fun {F1 H1} => ev_op ecut e2 inferInstance (op_val fun _ _ _ _ _ _ ha hb Q q' => .inl ⟨c, q, ha, hb, by rw [hcl]; omega, by omega, by omega, by omega, q'⟩)⟩
      obtain ⟨z, e3⟩ := e3
      refine w_if W2 (et_and (et_test (ev_op e1 ev_c inferInstance (op_Eq rfl))) fun _ => et_test (ev_op e3 (ev_varV rfl) inferInstance (op_Eq rfl))) (fun _ F3 H3 g3 W3 => ?_) (fun _ F3 H3 g3 W3 => ?_)
      · refine w_ret W3 ecut fun v F4 H4 g4 W4 e => k v F4 H4 W4.gr ⟨c, ⟨by omega, by omega⟩, e⟩
      · exact ⟨F3, sF.trans g3.fx, W3.sub, _, rfl, W3⟩
    · rintro σ' F' H' sF ⟨v1, rfl, W2⟩
      dsimp only
      refine w_ret W2 (ev_varV rfl) fun v F4 H4 g4 W4 e => k v F4 H4 W4.gr ⟨x, ⟨h1, Nat.le_refl _⟩, e⟩
end
def spSh : Sp := fun vs H Q _ => ∃ (F : Hp) (u x : Str) (v : V), vs = [v] ∧ Same F H ∧ pSS u x F v ∧ 1 ≤ x.length ∧ x.length ≤ 1000 ∧ u.length ≤ 1000 ∧ Ret F H (isEx (fun p : Str × Str => pSS p.1 p.2) fun _ => True) Q
theorem sc_shortened : FnScope ["row", "prefix", "cycle"] ["row"] (defScope sShortened) := ⟨rfl, rfl, rfl, by decide +kernel, rfl, by decide +kernel, by decide +kernel⟩
theorem last_at {α : Type} {l : List α} (h : 1 ≤ l.length) : ∃ a, atI l (-1) = some a := by
  refine ⟨l[l.length - 1]'(by omega), ?_⟩
  have e : ixN l.length (-1) = some (l.length - 1) := by
    unfold ixN
    rw [if_neg (by omega), if_pos (by omega)]
    congr 1
    omega
  unfold atI
  rw [e]
  exact List.getElem?_eq_getElem (by omega)
section
variable {P : Program} {w : World} {K : PySem.W.Frag} {mg : Str → Option Value} {base : Heap}
theorem ok_shortened (E : Tops K mg) : Cal P w K mg base 2 "shortened" ["row"] spSh := by
  have c_shortest_cycle : Cal P w K mg base 1 "shortest_cycle" ["cycle"] spSC := ok_shortest_cycle E
  refine Cal.of E.f_Shortened E.g_shortened sc_shortened (fun _ _ _ _ _ _ us hl => match us, hl with | [_], _ => rfl) (fun vs H Q Ex h => ?_) (fun cdv A outer s H vs Q Ex hr h => ?_)
  · obtain ⟨F, u, x, v, rfl, _⟩ := h
    rfl
  · obtain ⟨F, u, x, v, rfl, s0, hv, h1, h2, h3, k⟩ := h
    refine ⟨_, (pss_cons (ps_asg (pv 0) (pg_tupK (K := K) (n := 2) rfl rfl (pgs_cons (pg_name (i := 1) sc_shortened.nd rfl (.inl rfl)) (pgs_cons (pg_name (i := 2) sc_shortened.nd rfl (.inl rfl)) pgs_nil))))
      (pss_cons (ps_set (i := 2) sc_shortened.nd rfl (.inl rfl) (pe_cal c_shortest_cycle (hr.mono (by decide)) rfl (pa_cons (pv 2) pa_nil)))
      (pss_cons (ps_while PassesOwn.never (PW.pt (pw_and (pt_cmpR op_ne (pv 1) pe_str (nomark _)) (pw_and1 (pt_cmpR op_eq (pe_ix ix_str (pv 1) (pe_un un_neg pe_int) (fun _ _ => rfl)) (pe_ix ix_str (pv 2) (pe_un un_neg pe_int) (fun _ _ => rfl)) (nomark _)))))
        (pss_one (ps_par (i := 1) (j := 2) (by rfl) sc_shortened.nd rfl rfl (by decide) rfl rfl (pa_cons (pe_slice sl_str (pv 1) po_none (po_some (pe_un un_neg pe_int))) (pa_cons (pe_op op_add_str (pe_ix ix_str (pv 2) (pe_un un_neg pe_int) (fun _ _ => rfl)) (pe_slice sl_str (pv 2) po_none (po_some (pe_un un_neg pe_int)))) pa_nil)) (by rfl))))
      (pss_one (ps_ret (pe_tup (pa_cons (pv 1) (pa_cons (pv 2) pa_nil)))))))), ?_⟩
    have W0 := Wr.start s0
    refine w_seq (w_asg W0 (ev_var (P := pSS u x) rfl inferInstance hv) fun v1 F1 H1 g1 W1 hv1 => ?_)
    refine tg_tup2 W1.sub hv1 fun v2 v3 e2 e3 => ?_
    obtain rfl : v2 = .str u := e2
    obtain rfl : v3 = .str x := e3
    refine w_seq (w_set W1 (P := isEx (fun y : Str => isV (.str y)) fun y => 1 ≤ y.length ∧ y.length ≤ x.length) (ev_call W1.same (ea_cons (ev_varV rfl) inferInstance ea_nil) fun F2 H2 vs Q2 g2 s2 hvs r2 => ?_) fun v4 F2 H2 g2 W2 ⟨y, ⟨hy1, hy2⟩, e4⟩ => ?_)
    · cases hvs with
      | cons h hvs =>
        cases hvs
        obtain rfl : _ = V.str x := h
        exact ⟨F2, x, rfl, s2, h1, h2, r2⟩
    obtain rfl : v4 = .str y := e4
    refine w_seq (w_while (fun mu σ' F' H' => ∃ (a b : Str), σ' = [some v, some (.str a), some (.str b)] ∧ mu = a.length ∧ a.length ≤ 1000 ∧ 1 ≤ b.length ∧ b.length ≤ 1000 ∧ Wr F H [] F' H' none) W2.sub _ ⟨u, y, rfl, rfl, h3, hy1, by omega, W2⟩ ?_)
    rintro mu σ' F' H' sb ⟨a, b, rfl, rfl, ha, hb1, hb2, W3⟩
    have em1 : ∀ {σ : L2.St} {F1 H1 : Hp}, EvP (tUn (rU fun i => .int (-i)) (tC (.int 1))) σ F1 H1 (isV (.int (-1))) := ev_neg1 ev_c
    obtain ⟨cb, hcb⟩ := last_at (l := b.cps.toList) (by rw [Array.length_toList]; exact hb1)
    have ecb : ∀ {F1 H1 : Hp}, EvP (tOp rIxS (tVar 2) (tUn (rU fun i => .int (-i)) (tC (.int 1)))) [some v, some (.str a), some (.str b)] F1 H1 (isV (.str (sg cb))) := ev_op (ev_varV rfl) em1 inferInstance (op_ixS (by omega) hcb)
    have tst : ∃ t : Bool, EvT (tAnd (tTest (tOp rNe (tVar 1) (tC (.str "")))) (tTest (tOp rEq (tOp rIxS (tVar 1) (tUn (rU fun i => .int (-i)) (tC (.int 1)))) (tOp rIxS (tVar 2) (tUn (rU fun i => .int (-i)) (tC (.int 1))))))) [some v, some (.str a), some (.str b)] F' H' t ∧ (t = true → 1 ≤ a.length) := by
      by_cases e : a.length = 0
      · have ea : a = "" := by
          obtain ⟨c⟩ := a
          have : c = #[] := Array.eq_empty_of_size_eq_zero e
          rw [this]; rfl
        refine ⟨false, (et_and (a := false) (b := false) ((et_test (ev_op (ev_varV rfl) ev_c inferInstance (op_Ne rfl))).is (by rw [ea, decide_eq_true rfl]; rfl)) fun z => by cases z), fun z => by cases z⟩
      · obtain ⟨ca, hca⟩ := last_at (l := a.cps.toList) (by rw [Array.length_toList]; show 1 ≤ a.length; omega)
        have ea : ¬ V.str a = V.str "" := fun z => by
          injection z with z
          apply e
          rw [z]; rfl
        exact ⟨true && decide (V.str (sg ca) = V.str (sg cb)), et_and ((et_test (ev_op (ev_varV rfl) ev_c inferInstance (op_Ne rfl))).is (by rw [decide_eq_false ea]; rfl)) fun _ => et_test (ev_op (ev_op (ev_varV rfl) em1 inferInstance (op_ixS (by omega) hca)) ecb inferInstance (op_Eq rfl)), fun _ => by omega⟩
    obtain ⟨t, ht, hta⟩ := tst
    refine ⟨t, ht, fun hb F4 H4 g4 => ?_, fun hb F4 H4 g4 => ?_⟩
    · have W4 := W3.gro g4
      have ha1 := hta hb
      refine w_par W4 (P1 := isV (.str (cutS a none (some (-1))))) (P2 := isV (.str (sg cb ++ cutS b none (some (-1))))) (ea_cons (ev_cut (te := tNoPart) (ev_varV rfl) eo_none (eo_some em1) (by omega)) inferInstance (ea_cons (ev_op ecb (ev_cut (te := tNoPart) (ev_varV rfl) eo_none (eo_some em1) (by omega)) inferInstance (op_addS ?_)) inferInstance ea_nil)) fun v5 v6 F5 H5 s5 W5 e5 e6 => ?_
      · have := cutS_length b none (some (-1))
        have : (sg cb).length = 1 := rfl
        omega
      · obtain rfl : v5 = _ := e5
        obtain rfl : v6 = _ := e6
        have cl : ∀ z : Str, 1 ≤ z.length → (cutS z none (some (-1))).length = z.length - 1 := fun z hz => by
          unfold cutS
          rw [HT.sIx_none]
          show ((z.cps.toList.drop 0).take _).toArray.size = _
          rw [List.size_toArray, List.length_take, List.drop_zero, Array.length_toList]
          have : HT.sIx z.length z.length (some (-1)) = z.length - 1 := by
            have e0 : HT.sIx z.length z.length (some (-1)) = (-1 + (z.length : Int)).toNat := by
              unfold HT.sIx
              exact if_pos (by decide)
            rw [e0]
            omega
          rw [this]
          show min _ z.length = _
          omega
        have h5 := cl a ha1
        have h6 := cl b hb1
        refine ⟨a.length - 1, F5, by omega, W5.sub, cutS a none (some (-1)), sg cb ++ cutS b none (some (-1)), rfl, h5.symm, by omega, ?_, ?_, W5⟩
        · rw [Str.length_append]; show 1 ≤ 1 + _; omega
        · rw [Str.length_append]; show 1 + _ ≤ _; omega
    · have W4 := W3.gro g4
      refine w_ret W4 (ev_tup (Ps := [isV (.str a), isV (.str b)]) (ea_cons (ev_varV rfl) inferInstance (ea_cons (ev_varV rfl) inferInstance ea_nil)) inferInstance) fun v5 F5 H5 g5 W5 h5 => k v5 F5 H5 W5.gr ⟨(a, b), trivial, h5⟩
end
end EL

set_option Elab.async false
set_option linter.all false
set_option maxRecDepth 100000
set_option maxHeartbeats 2000000
namespace EL
open PySem PySem.Spec PyProof.Rows L2
section
variable {K : PySem.W.Frag} {F H : Hp} {σ : L2.St}
def hd1 (t : Tag) : Nat := t.1.cps.toList.headD 0
def Sig (t : Tag) : Prop := ∃ c, t.1 = sg c
theorem Sig.eq {t : Tag} (h : Sig t) : t.1 = sg (hd1 t) := by
  obtain ⟨c, e⟩ := h
  have : hd1 t = c := by unfold hd1; rw [e]; rfl
  rw [this, e]
theorem sigs {ts : List Tag} (h : ∀ t ∈ ts, Sig t) : (ts.map fun t => isV (.str t.1)) = (ts.map hd1).map fun c => isV (.str (sg c)) := by
  rw [List.map_map]
  exact List.map_congr_left fun t ht => by show isV _ = isV _; rw [(h t ht).eq]; first | done | rfl
/-- a comprehension over a list that is only known to be one of many -/
theorem ev_lcX {α β : Type} {tl te : TE} {g : TG} {tt : TT} {vs : List Nat} {f : α → Pr} {C : List α → Prop} {q : α → Pr} (hl : EvP tl σ F H (isEx (fun xs => isLst (xs.map f)) C)) (m : ∀ x, Mn (f x)) (hz : ∀ xs, C xs → xs.length ≤ 100000) (mq : ∀ x, Mn (q x))
    (hs : ∀ xs x v F1 H1, C xs → x ∈ xs → Gr F H F1 H1 → Sub F1 H1 → f x F1 v → ∀ Q : L2.St → Hp → Prop, (∀ σ2, wipe σ2 vs = wipe σ vs → EvT tt σ2 F1 H1 true → EvP te σ2 F1 H1 (q x) → Q σ2 H1) → g v (wipe σ vs) H1 Q) :
    EvP (tLc (iList K tl) g tt te vs) σ F H (isEx (fun xs => isLst (xs.map q)) C) := fun F1 H1 g1 s1 Q hQ =>
  hl F1 H1 g1 s1 _ fun v F2 H2 g2 ⟨xs, cx, hv⟩ => by
    have := ev_lc (wi := iList K (tC v)) (te := te) (tt := tt) (g := g) (vs := vs) (σ := σ) (F := F2) (H := H2) (k := none) (p := fun _ => true) (q := q) (ei_list (f := f) (xs := xs) (ev_lit inferInstance hv) m) (fun _ _ _ z => by cases z) (hz xs cx) mq fun x v2 F3 H3 hx g3 s3 hf Q3 hQ3 => hs xs x v2 F3 H3 cx hx ((g1.trans g2).trans g3) s3 hf Q3 fun σ2 hw ht he => hQ3 σ2 hw ht fun _ => he
    rw [List.filter_eq_self.mpr fun _ _ => rfl] at this
    exact this F2 H2 Gr.refl (s1.gr g2) _ fun w F3 H3 g3 hw => hQ w F3 H3 (g2.trans g3) ⟨xs, cx, hw⟩
end
def pWk (u : Pt) (ts : List Tag) : Pr := isTup [Nd.nd u, isLst (ts.map pTag)]
instance {u : Pt} {ts : List Tag} : Mn (pWk u ts) := by unfold pWk; infer_instance
def spRA : Sp := fun vs H Q _ => ∃ (F : Hp) (g : Gph Pt) (x u : Pt) (ts : List Tag) (v vx vw : V), vs = [v, vx, vw] ∧ Same F H ∧ pG g F v ∧ Wf g ∧ cap g ≤ 10000 ∧ g.length ≤ 100 ∧ x ∈ keys g ∧ Nd.nd x F vx ∧ Rch g x u ∧ pWk u ts F vw ∧ ts ≠ [] ∧ ts.length ≤ 1000 ∧
  (∀ n t w, (t, w) ∈ adj g n → Sig t) ∧ (∀ t ∈ ts, Sig t) ∧ Ret F H (isEx (fun p : Str × Str => pSS p.1 p.2) fun _ => True) Q
theorem sc_row_along : FnScope ["edges", "begin", "walk", "node", "tags", "prefix", "tag"] ["edges", "begin", "walk"] (defScope sRowAlong) := ⟨rfl, rfl, rfl, by decide +kernel, rfl, by decide +kernel, by decide +kernel⟩
section
variable {P : Program} {w : World} {K : PySem.W.Frag} {mg : Str → Option Value} {base : Heap}
theorem ok_row_along (E : Tops K mg) : Cal P w K mg base 3 "row_along" ["edges", "begin", "walk"] spRA := by
  have c_path_between : Cal P w K mg base 2 "path_between" ["edges", "begin", "end"] spPB := (ok_path_between E).mono (by decide)
  have c_shortened : Cal P w K mg base 2 "shortened" ["row"] spSh := ok_shortened E
  refine Cal.of E.f_RowAlong E.g_row_along sc_row_along (fun _ _ _ _ _ _ us hl => match us, hl with | [_, _, _], _ => rfl) (fun vs H Q Ex h => ?_) (fun cdv A outer s H vs Q Ex hr h => ?_)
  · obtain ⟨F, g, x, u, ts, v, vx, vw, rfl, _⟩ := h
    rfl
  · obtain ⟨F, g, x, u, ts, v, vx, vw, rfl, s0, hg, Wg, sm, hgl, hx, hvx, hxu, hw, hne, htl, hsg, hst, k⟩ := h
    refine ⟨_, (pss_cons (ps_asg (pv 2) (pg_tupK (K := K) (n := 2) rfl rfl (pgs_cons (pg_name (i := 3) sc_row_along.nd rfl (.inl rfl)) (pgs_cons (pg_name (i := 4) sc_row_along.nd rfl (.inl rfl)) pgs_nil))))
      (pss_cons (ps_set (i := 5) sc_row_along.nd rfl (.inl rfl) (pe_join pe_str (by exact pe_lc (own := [("tag", 6)]) rfl sc_row_along.nd (pi_listK (K := K) rfl (pe_cal c_path_between (hr.mono (by decide)) rfl (pa_cons (pv 0) (pa_cons (pv 1) (pa_cons (pv 3) pa_nil))))) (blkOk_by (N := ["edges", "begin", "walk", "node", "tags", "prefix", "tag"]) (sc := defScope sRowAlong) (by decide +kernel)) (fun _ _ _ _ _ => (pg_name (i := 6) sc_row_along.nd rfl (.inl rfl))) (fun _ _ _ _ _ => pts_nil) (fun _ _ _ _ _ => (pe_ix (ix_tupK (K := K) rfl) (pv 6) pe_int (fun _ _ => rfl))))))
      (pss_one (ps_ret (pe_cal c_shortened (hr.mono (by decide)) rfl (pa_cons (pe_tup (pa_cons (pv 5) (pa_cons (pe_join pe_str (by exact pe_lc (own := [("tag", 6)]) rfl sc_row_along.nd (pi_listK (K := K) rfl (pv 4)) (blkOk_by (N := ["edges", "begin", "walk", "node", "tags", "prefix", "tag"]) (sc := defScope sRowAlong) (by decide +kernel)) (fun _ _ _ _ _ => (pg_name (i := 6) sc_row_along.nd rfl (.inl rfl))) (fun _ _ _ _ _ => pts_nil) (fun _ _ _ _ _ => (pe_ix (ix_tupK (K := K) rfl) (pv 6) pe_int (fun _ _ => rfl))))) pa_nil))) pa_nil)))))), ?_⟩
    have W0 := Wr.start s0
    refine w_seq (w_asg W0 (ev_var (P := pWk u ts) rfl inferInstance hw) fun v1 F1 H1 g1 W1 hv1 => ?_)
    refine tg_tup2 W1.sub hv1 fun vu vt hu ht => ?_
    have hu : Nd.nd u F1 vu := hu
    have ht : isLst (ts.map pTag) F1 vt := ht
    have hgF := (inferInstance : Mn (pG g)).mn g1.fx hg
    have hvx1 := (inferInstance : Mn (Nd.nd x)).mn g1.fx hvx
    have tag0 : ∀ {σ : L2.St} {F2 H2 : Hp} {t : Tag} {v : V}, pTag t F2 v → σ[6]? = some (some v) → EvP (tOp (rIxT K) (tVar 6) (tC (.int 0))) σ F2 H2 (isV (.str t.1)) := fun {σ F2 H2 t v} h e => ev_op (Pa := isTup [isV (.str t.1), isV (.int t.2.1), isV (.int t.2.2)]) (ev_var e inferInstance h) ev_c inferInstance (op_ixT (by rfl))
    dsimp only
    refine w_seq (w_set W1 (P := isEx (fun z : Str => isV (.str z)) fun z => z.length ≤ 1000) ?_ fun vp F2 H2 g2 W2 ⟨z, hz, ez⟩ => ?_)
    · intro F2 H2 g2 s2 Q2 q2
      have hlc := ev_lcX (β := Unit) (K := K) (te := tOp (rIxT K) (tVar 6) (tC (.int 0))) (tt := tYes) (g := gName 6) (vs := [6]) (C := PathOk g) (f := pTag) (q := fun t => isV (.str t.1)) (σ := [some v, some vx, some vw, some vu, some vt, none, none])
        (ev_call (sp := spPB) W1.same (ea_cons (P := pG g) (ev_var (i := 0) rfl inferInstance hgF) inferInstance (ea_cons (P := Nd.nd x) (ev_var (i := 1) rfl inferInstance hvx1) inferInstance (ea_cons (P := Nd.nd u) (ev_var (i := 3) rfl inferInstance hu) inferInstance ea_nil))) fun F3 H3 vs Q3 g3 s3 hvs r3 => by
          cases hvs with
          | cons h1 hvs =>
            cases hvs with
            | cons h2 hvs =>
              cases hvs with
              | cons h3 hvs =>
                cases hvs
                exact ⟨F3, g, _, _, _, x, u, rfl, s3, h1, Wg, sm, hx, h2, h3, hxu, r3⟩) (fun _ => inferInstance) (fun ts ht => by have := ht.1; omega) (fun _ => inferInstance) fun ts t v2 F3 H3 hc hm g3 s3 hf Q3 hQ3 => hQ3 _ rfl et_yes (tag0 hf rfl)
      -- the value first, then the join
      show tM1 _ (tC (.str "")) _ _ _ _
      refine ⟨⟨_, rfl⟩, hlc F2 H2 g2 s2 _ fun y F3 H3 g3 ⟨tp, hc, hy⟩ => ?_⟩
      have hy : isLst (tp.map fun t => isV (.str t.1)) F3 y := hy
      rw [sigs fun t ht => by obtain ⟨n, m, hm⟩ := hc.2 t ht; exact hsg n t m hm] at hy
      have ej := ev_joinSg (K := K) (σ := [some v, some vx, some vw, some vu, some vt, none, none]) (F := F3) (H := H3) (to := tC (.str "")) (te := tC y) (cs := tp.map hd1) ev_c (ev_lit inferInstance hy) (by rw [List.length_map]; have := hc.1; omega)
      have := ej F3 H3 Gr.refl ((s2.gr g3)) Q2 fun v4 F4 H4 g4 e4 => q2 v4 F4 H4 (g3.trans g4) ⟨_, by show (tp.map hd1).toArray.size ≤ 1000; rw [List.size_toArray, List.length_map]; have := hc.1; omega, e4⟩
      exact this.2
    · obtain rfl : vp = .str z := ez
      have ht2 := (inferInstance : Mn (isLst (ts.map pTag))).mn g2.fx ht
      refine w_ret W2 (P := isEx (fun p : Str × Str => pSS p.1 p.2) fun _ => True) (ev_call W2.same (ea_cons (P := pSS z ⟨(ts.map hd1).toArray⟩) (ev_tup (ea_cons (ev_varV rfl) inferInstance (ea_cons (ev_joinSg (K := K) ev_c (EvP.imp (ev_lc (p := fun _ => true) (q := fun t : Tag => isV (.str t.1)) (k := none) (ei_list (f := pTag) (xs := ts) (ev_var rfl inferInstance ht2) fun _ => inferInstance) (fun _ _ _ z => by cases z) (by omega) (fun _ => inferInstance) fun t v3 F3 H3 _ g3 s3 hf Q3 hQ3 => ?_) fun F v h => ?_) (by rw [List.length_map]; omega)) inferInstance ea_nil)) inferInstance) inferInstance ea_nil) fun F3 H3 vs Q3 g3 s3 hvs r3 => ?_) fun v5 F5 H5 g5 W5 h5 => k v5 F5 H5 W5.gr h5
      · exact hQ3 _ rfl et_yes fun _ => tag0 hf rfl
      · rw [List.filter_eq_self.mpr fun _ _ => rfl, sigs hst] at h
        exact h
      · cases hvs with
        | cons h1 hvs =>
          cases hvs
          have hl : (⟨(ts.map hd1).toArray⟩ : Str).length = ts.length := by show (ts.map hd1).toArray.size = _; rw [List.size_toArray, List.length_map]
          have : ts.length ≠ 0 := fun z => hne (List.length_eq_zero_iff.mp z)
          exact ⟨F3, z, _, _, rfl, s3, h1, by omega, by omega, hz, r3⟩
end
def spNSL (K : PySem.W.Frag) : Sp := fun vs H Q _ => ∃ (F : Hp) (m m' : Mach) (v v' : V), vs = [v, v'] ∧ Same F H ∧ pM K m F v ∧ pM K m' F v' ∧ m'.al = m.al ∧ Ret F H (isV .non) Q
theorem sc_need_same_letters : FnScope ["one", "other"] ["one", "other"] (defScope sNeedSameLetters) := ⟨rfl, rfl, rfl, by decide +kernel, rfl, by decide +kernel, by decide +kernel⟩
section
variable {P : Program} {w : World} {K : PySem.W.Frag} {mg : Str → Option Value} {base : Heap}
theorem ok_need_same_letters (E : Tops K mg) : Cal P w K mg base 2 "need_same_letters" ["one", "other"] (spNSL K) := by
  have c_mletters : Cam P w K mg base 1 "letters" ["self"] (spMLet K) := ok_mletters E
  refine Cal.of E.f_NeedSameLetters E.g_need_same_letters sc_need_same_letters (fun _ _ _ _ _ _ us hl => match us, hl with | [_, _], _ => rfl) (fun vs H Q Ex h => ?_) (fun cdv A outer s H vs Q Ex hr h => ?_)
  · obtain ⟨F, m, m', v, v', rfl, _⟩ := h
    rfl
  · obtain ⟨F, m, m', v, v', rfl, s0, hm, hm', al, k⟩ := h
    refine ⟨_, (pss_one (ps_if (pt_cmpR op_ne (pe_cam0K (K := K) rfl c_mletters (hr.mono (by decide)) (pv 0)) (pe_cam0K (K := K) rfl c_mletters (hr.mono (by decide)) (pv 1)) (nomark _))
        (pss_one ps_never)
        pss_nil)), ?_⟩
    have W0 := Wr.start s0
    have el : ∀ {σ : L2.St} {F' H' : Hp} {i : Nat} {m : Mach} {v : V}, pM K m F' v → σ[i]? = some (some v) → EvP (tMeth (MC K) "letters" (spMLet K) [] E0 (tVar i) tNil) σ F' H' (isV (.str m.al)) := fun {σ F' H' i m v} hm hi =>
      ev_camS (ev_var hi inferInstance hm) ea_nil fun F1 H1 x vs Q1 g1 s1 hx hvs r1 => by
        cases hvs
        exact ⟨F1, m, x, rfl, s1, hx, r1⟩
    refine w_if (b := false) W0 ((et_test (ev_op (el hm rfl) (el hm' rfl) inferInstance (op_Ne rfl))).is (by rw [al, decide_eq_true rfl]; rfl)) (fun hb => by cases hb) fun _ F2 H2 g2 W2 => ?_
    show Q .non H2
    exact k _ F2 H2 W2.gr rfl
end
def DifG (g : Gph Pt) : Prop := ∃ a b : Nat, a < 4 ∧ b < 4 ∧ (a + b) % 2 = 1 ∧ Both (bnd g a b) a b
def pDf (b : Bool) : Pr := fun _ v => if b = true then ∃ a, v = .ref a else v = .non
instance {b : Bool} : Mn (pDf b) := ⟨fun _ h => h⟩
def DfOk (m m' : Mach) (b : Bool) : Prop := ∃ g, JOk m m' g ∧ (b = true ↔ DifG g)
theorem JR.in {m m' : Mach} (ok : MOk m) (ok' : MOk m') (al : m'.al = m.al) {p : Pt} (h : JR m m' p) : InR m m' p := by
  induction h with
  | st => exact ⟨⟨ok.s1, ok.s2⟩, ok'.s1, ok'.s2⟩
  | @step p c _ hc ih => exact (jadj_in ok ok' al ih _ (List.mem_map.mpr ⟨c, hc, rfl⟩)).1
section
variable {m m' : Mach} {g : Gph Pt} (ok : MOk m) (ok' : MOk m') (al : m'.al = m.al) (J : JOk m m' g)
include ok ok' al J
theorem JOk.edge {p q : Pt} {t : Tag} (h : (t, q) ∈ adj g p) : JR m m' p ∧ ∃ c ∈ m.ls, t = (sg c, (stp m p.1 c).2, (stp m' p.2 c).2) ∧ q = ((stp m p.1 c).1, (stp m' p.2 c).1) := by
  have hp : p ∈ keys g := Ed.key ⟨t, h⟩
  rw [J.ad p hp] at h
  obtain ⟨c, hc, e⟩ := List.mem_map.mp h
  cases e
  exact ⟨(J.ks p).mp hp, c, hc, rfl, rfl⟩
theorem JOk.wf : Wf g := ⟨J.nd, fun u v ⟨t, h⟩ => by
  obtain ⟨h1, c, hc, _, e⟩ := J.edge ok ok' al h
  rw [e]
  exact (J.ks _).mpr (h1.step hc)⟩
theorem JOk.len : g.length ≤ 9 := by
  have := pairs_len J.nd fun p hp => ((J.ks p).mp hp).in ok ok' al
  have h2 := Nat.mul_le_mul ok.t2 ok'.t2
  simp [keys] at this
  omega
theorem JOk.cap : EL.cap g ≤ 10000 := by
  have hw : ∀ r : Gph Pt, (∀ p ∈ r, p.2.length ≤ 3) → wgt [] r ≤ 8 * r.length := by
    intro r
    induction r with
    | nil => intro _; exact Nat.le_refl _
    | cons p r ih =>
      intro h
      have h1 := h p List.mem_cons_self
      have h2 := ih fun q hq => h q (List.mem_cons_of_mem _ hq)
      show (if p.1 ∈ [] then 0 else 2 * p.2.length + 2) + wgt [] r ≤ 8 * (r.length + 1)
      rw [if_neg (by simp)]
      omega
  have h1 := hw g fun p hp => by
    have hl : luk g p.1 = some p.2 := luk_of_mem J.nd hp
    have ha : adj g p.1 = p.2 := by unfold adj; rw [hl]; rfl
    rw [← ha, J.ad _ (List.mem_map.mpr ⟨p, hp, rfl⟩)]
    unfold jadj
    rw [List.length_map]
    show m.al.cps.toList.length ≤ 3
    rw [Array.length_toList]
    exact (alph_size ok.al).2
  have h2 := J.len ok ok' al
  unfold EL.cap
  omega
theorem JOk.rch {p : Pt} (h : p ∈ keys g) : Rch g (m.st, m'.st) p := by
  have h := (J.ks p).mp h
  induction h with
  | st => exact .refl _
  | @step p c h1 hc ih =>
    have hm : ((sg c, (stp m p.1 c).2, (stp m' p.2 c).2), ((stp m p.1 c).1, (stp m' p.2 c).1)) ∈ adj g p := by
      rw [J.ad p ((J.ks p).mpr h1)]
      exact List.mem_map.mpr ⟨c, hc, rfl⟩
    exact (ih ((J.ks p).mpr h1)).trans (.one ⟨_, hm⟩)
end
def spDf (K : PySem.W.Frag) : Sp := fun vs H Q _ => ∃ (F : Hp) (m m' : Mach) (v v' : V), vs = [v, v'] ∧ Same F H ∧ pM K m F v ∧ pM K m' F v' ∧ MOk m ∧ MOk m' ∧ m'.al = m.al ∧ Ret F H (isEx pDf (DfOk m m')) Q
theorem sc_difference : FnScope ["one", "other", "edges", "first", "second", "walk"] ["one", "other"] (defScope sDifference) := ⟨rfl, rfl, rfl, by decide +kernel, rfl, by decide +kernel, by decide +kernel⟩
section
variable {P : Program} {w : World} {K : PySem.W.Frag} {mg : Str → Option Value} {base : Heap}
theorem ok_difference (E : Tops K mg) : Cal P w K mg base 5 "difference" ["one", "other"] (spDf K) := by
  have c_mstart : Cam P w K mg base 4 "start" ["self"] (spMSta K) := (ok_mstart E).mono (by decide)
  have c_need_same_letters : Cal P w K mg base 4 "need_same_letters" ["one", "other"] (spNSL K) := (ok_need_same_letters E).mono (by decide)
  have c_joint_edges : Cal P w K mg base 4 "joint_edges" ["one", "other"] (spJE K) := (ok_joint_edges E).mono (by decide)
  have c_cycle_with : Cal P w K mg base 4 "cycle_with" ["edges", "first", "second"] spCyW := ok_cycle_with E
  have c_row_along : Cal P w K mg base 4 "row_along" ["edges", "begin", "walk"] spRA := (ok_row_along E).mono (by decide)
  obtain ⟨_, m_MAX_PRIORITY⟩ := E.i_MAX_PRIORITY
  refine Cal.of E.f_Difference E.g_difference sc_difference (fun _ _ _ _ _ _ us hl => match us, hl with | [_, _], _ => rfl) (fun vs H Q Ex h => ?_) (fun cdv A outer s H vs Q Ex hr h => ?_)
  · obtain ⟨F, m, m', v, v', rfl, _⟩ := h
    rfl
  · obtain ⟨F, m, m', v, v', rfl, s0, hm, hm', ok, ok', al, k⟩ := h
    refine ⟨_, (pss_cons (ps_expr (pe_cal c_need_same_letters (hr.mono (by decide)) rfl (pa_cons (pv 0) (pa_cons (pv 1) pa_nil))))
      (pss_cons (ps_set (i := 2) sc_difference.nd rfl (.inl rfl) (pe_cal c_joint_edges (hr.mono (by decide)) rfl (pa_cons (pv 0) (pa_cons (pv 1) pa_nil))))
      (pss_cons (ps_for PassesOwn.never rfl (pi_range1 (by rfl) E.n_range (pa_cons (pe_op op_add (pe_glob (v := .int 3) rfl m_MAX_PRIORITY ⟨_, rfl⟩) pe_int) pa_nil)) (pg_name (i := 3) sc_difference.nd rfl (.inl rfl))
        (pss_one (ps_for PassesOwn.never rfl (pi_range1 (by rfl) E.n_range (pa_cons (pe_op op_add (pe_glob (v := .int 3) rfl m_MAX_PRIORITY ⟨_, rfl⟩) pe_int) pa_nil)) (pg_name (i := 4) sc_difference.nd rfl (.inl rfl))
          (pss_cons (ps_set (i := 5) sc_difference.nd rfl (.inl rfl) (pe_ifExp (pt_cmpR op_eq (pe_op op_mod (pe_op op_add (pv 3) (pv 4)) pe_int) pe_int (nomark _)) (pe_cal c_cycle_with (hr.mono (by decide)) rfl (pa_cons (pv 2) (pa_cons (pv 3) (pa_cons (pv 4) pa_nil)))) pe_non))
          (pss_one (ps_if (pt_cmpR op_notN (pv 5) pe_non (nomark _))
            (pss_one (ps_ret (pe_cal c_row_along (hr.mono (by decide)) rfl (pa_cons (pv 2) (pa_cons (pe_tup (pa_cons (pe_cam0K (K := K) rfl c_mstart (hr.mono (by decide)) (pv 0)) (pa_cons (pe_cam0K (K := K) rfl c_mstart (hr.mono (by decide)) (pv 1)) pa_nil))) (pa_cons (pv 5) pa_nil))))))
            pss_nil))))))
      (pss_one (ps_ret pe_non))))), ?_⟩
    have W0 := Wr.start s0
    have estart : ∀ {σ : L2.St} {F' H' : Hp} {i : Nat} {m : Mach} {v : V}, pM K m F' v → σ[i]? = some (some v) → EvP (tMeth (MC K) "start" (spMSta K) [] E0 (tVar i) tNil) σ F' H' (isV (.int m.st)) := fun {σ F' H' i m v} hm hi =>
      ev_camS (ev_var hi inferInstance hm) ea_nil fun F1 H1 x vs Q1 g1 s1 hx hvs r1 => by
        cases hvs
        exact ⟨F1, m, x, rfl, s1, hx, r1⟩
    refine w_seq (w_drop W0 (P := isV .non) (ev_call s0 (ea_cons (P := pM K m) (ev_var rfl inferInstance hm) inferInstance (ea_cons (P := pM K m') (ev_var rfl inferInstance hm') inferInstance ea_nil)) fun F1 H1 vs Q1 g1 s1 hvs r1 => ?_) fun F1 H1 g1 W1 => ?_)
    · cases hvs with
      | cons h1 hvs =>
        cases hvs with
        | cons h2 hvs =>
          cases hvs
          exact ⟨F1, m, m', _, _, rfl, s1, h1, h2, al, r1⟩
    have hm1 := (inferInstance : Mn (pM K m)).mn g1.fx hm
    have hm1' := (inferInstance : Mn (pM K m')).mn g1.fx hm'
    refine w_seq (w_set W1 (P := isEx (fun g : Gph Pt => pG g) (JOk m m')) (ev_call W1.same (ea_cons (P := pM K m) (ev_var rfl inferInstance hm1) inferInstance (ea_cons (P := pM K m') (ev_var rfl inferInstance hm1') inferInstance ea_nil)) fun F2 H2 vs Q2 g2 s2 hvs r2 => ?_) fun vg F2 H2 g2 W2 ⟨g, J, hg⟩ => ?_)
    · cases hvs with
      | cons h1 hvs =>
        cases hvs with
        | cons h2 hvs =>
          cases hvs
          exact ⟨F2, m, m', _, _, rfl, s2, h1, h2, ok, ok', al, r2⟩
    have Wg := J.wf ok ok' al
    have cg := J.cap ok ok' al
    have lg := J.len ok ok' al
    have s02 := g1.fx.trans g2.fx
    refine w_seq (w_forR1 (n := 4) W2 (ea_cons ((ev_op ev_c ev_c inferInstance op_I0).is rfl) inferInstance ea_nil) (by decide) fun F3 H3 g3 W3 => ?_)
    refine ⟨fun i σ' F' H' => ∃ v3 v4 v5 : Option V, σ' = [some v, some v', some vg, v3, v4, v5] ∧ Wr F H [] F' H' none ∧ ∀ a b : Nat, a < i → b < 4 → (a + b) % 2 = 1 → ¬ Both (bnd g a b) a b, ⟨_, _, _, rfl, W3, fun a b h => absurd h (Nat.not_lt_zero _)⟩, ?_, ?_⟩
    · rintro i σ' F' H' hi sF ⟨v3, v4, v5, rfl, W4, hno⟩
      refine w_forR1 (n := 4) W4 (ea_cons ((ev_op ev_c ev_c inferInstance op_I0).is rfl) inferInstance ea_nil) (by decide) fun F5 H5 g5 W5 => ?_
      refine ⟨fun j σ' F' H' => ∃ v4 v5 : Option V, σ' = [some v, some v', some vg, some (.int (i : Int)), v4, v5] ∧ Wr F H [] F' H' none ∧ ∀ b : Nat, b < j → (i + b) % 2 = 1 → ¬ Both (bnd g i b) i b, ⟨_, _, rfl, W5, fun b h => absurd h (Nat.not_lt_zero _)⟩, ?_, ?_⟩
      · rintro j σ'' F'' H'' hj sF5 ⟨v4, v5, rfl, W6, hnj⟩
        have s6 : Same F F'' := (s02.trans (g3.fx.trans sF)).trans (g5.fx.trans sF5)
        have s26 : Same F2 F'' := (g3.fx.trans sF).trans (g5.fx.trans sF5)
        have hg6 := (inferInstance : Mn (pG g)).mn s26 hg
        refine w_seq (w_set W6 (P := isEx pCW fun o => if (i + j) % 2 = 1 then CWok (bnd g i j) i j o else o = none) (ev_if (b := decide ((i + j) % 2 = 1)) ((et_test (ev_op ((ev_op ((ev_op (ev_varV rfl) (ev_varV rfl) inferInstance op_I0).is (w := .int ((i : Int) + (j : Int))) rfl) ev_c inferInstance (op_I (by decide : (0 : Int) < 2))).is (w := .int (((i : Int) + (j : Int)) % 2)) rfl) ev_c inferInstance (op_Eq rfl))).is ?_) (fun hb => EvP.imp (ev_call (R := isEx pCW (CWok (bnd g i j) i j)) W6.same (ea_cons (P := pG g) (ev_var rfl inferInstance hg6) inferInstance (ea_cons (ev_varV rfl) inferInstance (ea_cons (ev_varV rfl) inferInstance ea_nil))) fun F7 H7 vs Q7 g7 s7 hvs r7 => ?_) fun F v h => ?_) fun hb => EvP.imp ev_c fun F v h => ?_) fun vw F7 H7 g7 W7 ⟨o, ho, hw⟩ => ?_)
        · by_cases z : (i + j) % 2 = 1
          · rw [decide_eq_true z, decide_eq_true (by congr 1; omega)]
          · rw [decide_eq_false z, decide_eq_false (fun q => by injection q; omega)]
        · cases hvs with
          | cons h1 hvs =>
            cases hvs with
            | cons h2 hvs =>
              cases hvs with
              | cons h3 hvs =>
                cases hvs
                obtain rfl : _ = V.int (i : Int) := h2
                obtain rfl : _ = V.int (j : Int) := h3
                exact ⟨F7, g, i, j, _, rfl, s7, h1, Wg, cg, by omega, r7⟩
        · obtain ⟨o, ho, hv⟩ := h
          exact ⟨o, (by dsimp only; rw [if_pos (of_decide_eq_true hb)]; exact ho), hv⟩
        · exact ⟨none, (by dsimp only; rw [if_neg (of_decide_eq_false hb)]), h⟩
        · have s7 := s6.trans g7.fx
          have hg7 := (inferInstance : Mn (pG g)).mn g7.fx hg6
          cases o with
          | none =>
            obtain rfl : vw = .non := hw
            refine w_if (b := false) W7 ((et_test (ev_op (ev_varV rfl) ev_c inferInstance op_notN')).is rfl) (fun hb => by cases hb) fun _ F8 H8 g8 W8 => ?_
            refine ⟨F8, (sF5.trans g7.fx).trans g8.fx, W8.sub, _, _, rfl, W8, fun b hb h2 => ?_⟩
            rcases Nat.lt_succ_iff_lt_or_eq.mp hb with z | z
            · exact hnj b z h2
            · subst z
              rw [if_pos h2] at ho
              exact ho
          | some p =>
            obtain ⟨u, ts⟩ := p
            by_cases hodd : (i + j) % 2 = 1
            · rw [if_pos hodd] at ho
              obtain ⟨hboth, huk, hts, hne⟩ := ho
              obtain ⟨aw, ws, rfl, haw, hww⟩ := id hw
              refine w_if (b := true) W7 ((et_test (ev_op (ev_varV rfl) ev_c inferInstance op_notN')).is rfl) (fun _ F8 H8 g8 W8 => ?_) fun hb => by cases hb
              have s8 := s7.trans g8.fx
              have hg8 := (inferInstance : Mn (pG g)).mn g8.fx hg7
              have hm8 := (inferInstance : Mn (pM K m)).mn s8 hm
              have hm8' := (inferInstance : Mn (pM K m')).mn s8 hm'
              have hw8 : pWk u ts F8 (.ref aw) := (inferInstance : Mn (pWk u ts)).mn g8.fx hw
              have hkb : keys (bnd g i j) = keys g := by unfold bnd; rw [keys_sub]; simp
              rw [hkb] at huk
              have hsub : ∀ n t w, (t, w) ∈ adj (bnd g i j) n → (t, w) ∈ adj g n := fun n t w h => by
                unfold bnd at h
                rw [adj_sub (nc := fun _ => true) rfl] at h
                exact (List.mem_filter.mp h).1
              have hsig : ∀ n t w, (t, w) ∈ adj g n → Sig t := fun n t w h => by
                obtain ⟨_, c, _, e, _⟩ := J.edge ok ok' al h
                exact ⟨c, by rw [e]⟩
              refine w_ret W8 (P := isEx pDf (DfOk m m')) (EvP.imp (ev_call (R := isEx (fun p : Str × Str => pSS p.1 p.2) fun _ => True) W8.same (ea_cons (P := pG g) (ev_var rfl inferInstance hg8) inferInstance (ea_cons (P := Nd.nd ((m.st, m'.st) : Pt)) (ev_tup (Ps := [isV (.int m.st), isV (.int m'.st)]) (ea_cons (estart hm8 rfl) inferInstance (ea_cons (estart hm8' rfl) inferInstance ea_nil)) inferInstance) inferInstance (ea_cons (P := pWk u ts) (ev_var rfl inferInstance hw8) inferInstance ea_nil))) fun F9 H9 vs Q9 g9 s9 hvs r9 => ?_) fun F v h => ?_) fun v9 F9 H9 g9 W9 h9 => k v9 F9 H9 W9.gr h9
              · cases hvs with
                | cons h1 hvs =>
                  cases hvs with
                  | cons h2 hvs =>
                    cases hvs with
                    | cons h3 hvs =>
                      cases hvs
                      exact ⟨F9, g, (m.st, m'.st), u, ts, _, _, _, rfl, s9, h1, Wg, cg, by omega, (J.ks _).mpr .st, h2, J.rch ok ok' al huk, h3, hne, hts.1, hsig, fun t ht => by
                        obtain ⟨n, w, hm⟩ := hts.2 t ht
                        exact hsig n t w (hsub n t w hm), r9⟩
              · obtain ⟨p, _, a, ws, e, _⟩ := h
                refine ⟨true, ⟨g, J, ⟨fun _ => ⟨i, j, by omega, by omega, hodd, hboth⟩, fun _ => rfl⟩⟩, ?_⟩
                show (if true = true then ∃ a, v = .ref a else v = .non)
                rw [if_pos rfl]
                exact ⟨a, e⟩
            · rw [if_neg hodd] at ho
              cases ho
      · rintro σ'' F'' H'' sF5 ⟨v4, v5, rfl, W6, hnj⟩
        refine ⟨F'', sF.trans (g5.fx.trans sF5), W6.sub, _, _, _, rfl, W6, fun a b ha hb h2 => ?_⟩
        rcases Nat.lt_succ_iff_lt_or_eq.mp ha with z | z
        · exact hno a b z hb h2
        · subst z
          exact hnj b hb h2
    · rintro σ' F' H' sF ⟨v3, v4, v5, rfl, W4, hno⟩
      dsimp only
      refine w_ret W4 ev_c fun v9 F9 H9 g9 W9 h9 => k v9 F9 H9 W9.gr ⟨false, ⟨g, J, ⟨fun z => (by cases z), fun ⟨a, b, h1, h2, h3, h4⟩ => absurd h4 (hno a b h1 h2 h3)⟩⟩, ?_⟩
      obtain rfl : v9 = .non := h9
      rfl
end
end EL

set_option Elab.async false
set_option linter.all false
set_option maxRecDepth 100000
set_option maxHeartbeats 2000000
namespace EL
open PySem PySem.Spec PyProof.Rows L2
theorem mnl_all : ∀ {Ps : List Pr}, (∀ P ∈ Ps, Mn P) → MnL Ps
  | [], _ => inferInstance
  | P :: Ps, h => by
    have m := h P List.mem_cons_self
    have ms := mnl_all (Ps := Ps) fun Q hQ => h Q (List.mem_cons_of_mem _ hQ)
    infer_instance
section
variable {α β : Type} {σ : L2.St} {F H : Hp} {k : Lk} {te : TE} {xs : List α} {f : α → Pr} {ys : α → List β} {f1 : α → β → Pr} {q : α → β → Pr} {p : α → β → Bool}
/-- [e for x in xs for y in ys if ..] -/
theorem ev_lc2 {wi wi1 : TI} {g g1 : TG} {tt tt1 : TT} {vs vs1 : List Nat} (hi : EvI wi σ F H k xs (fun _ => f)) (hk : ∀ d od u, k = some (d, od, u) → H d = some (.frz od u)) (hz : (xs.map fun x => (ys x).length).sum ≤ 100000) (mq : ∀ x y, Mn (q x y))
    (hs : ∀ x v F1 H1, x ∈ xs → Gr F H F1 H1 → Sub F1 H1 → f x F1 v → ∀ Q : L2.St → Hp → Prop, (∀ σ2, wipe σ2 vs = wipe σ vs → EvT tt σ2 F1 H1 true → EvI wi1 σ2 F1 H1 none (ys x) (fun _ => f1 x) →
      (∀ y w F2 H2, y ∈ ys x → Gr F H F2 H2 → Same F1 F2 → Sub F2 H2 → f1 x y F2 w → ∀ Q' : L2.St → Hp → Prop, (∀ σ3, wipe σ3 vs1 = wipe σ2 vs1 → EvT tt1 σ3 F2 H2 (p x y) → (p x y = true → EvP te σ3 F2 H2 (q x y)) → Q' σ3 H2) → g1 w (wipe σ2 vs1) H2 Q') → Q σ2 H1) → g v (wipe σ vs) H1 Q) :
    EvP (tLc2 wi g tt wi1 g1 tt1 te vs vs1) σ F H (isLst (xs.flatMap fun x => ((ys x).filter (p x)).map (q x))) := fun F1 H1 gA sA Q hQ => by
  refine hi F1 H1 gA sA _ fun J F2 H2 gB hJ D hD => ?_
  have sB := sA.gr gB
  have gg := gA.trans gB
  have hk2 : ∀ d od u, k = some (d, od, u) → H2 d = some (.frz od u) := fun d od u e => gg.ex _ _ (hk d od u e)
  have mR : ∀ zs : List α, MnL (zs.flatMap fun x => ((ys x).filter (p x)).map (q x)) := fun zs => mnl_all fun P hP => by
    obtain ⟨x, _, hx⟩ := List.mem_flatMap.mp hP
    obtain ⟨y, _, rfl⟩ := List.mem_map.mp hx
    exact mq x y
  have mR2 : ∀ (zs : List α) (x : α) (ws : List β), MnL ((zs.flatMap fun x => ((ys x).filter (p x)).map (q x)) ++ (ws.filter (p x)).map (q x)) := fun zs x ws => mnl_all fun P hP => by
    rcases List.mem_append.mp hP with h | h
    · obtain ⟨x, _, hx⟩ := List.mem_flatMap.mp h
      obtain ⟨y, _, rfl⟩ := List.mem_map.mp hx
      exact mq x y
    · obtain ⟨y, _, rfl⟩ := List.mem_map.mp h
      exact mq x y
  have lenR : ∀ zs : List α, (zs.flatMap fun x => ((ys x).filter (p x)).map (q x)).length ≤ (zs.map fun x => (ys x).length).sum := fun zs => by
    induction zs with
    | nil => exact Nat.le_refl _
    | cons z zs ih =>
      rw [List.flatMap_cons, List.length_append, List.length_map, List.map_cons, List.sum_cons]
      have := List.length_filter_le (p z) (ys z)
      omega
  refine ⟨fun i m H' => m = xs.length - i ∧ i ≤ xs.length ∧ ∃ F' vs', CW F2 H2 D (.lst vs') F' H' ∧ PrL F' ((xs.take i).flatMap fun x => ((ys x).filter (p x)).map (q x)) vs', ⟨xs.length, rfl, Nat.zero_le _, F2, [], CW.start sB hD rfl, by simp; exact .nil⟩, ?_⟩
  rintro i m H' ⟨rfl, hi', F', vs', cw, hp⟩
  have hh : Hold F2 k F' H' := cw.hold (Same.refl _) hk2
  by_cases hlt : i < xs.length
  · refine .inr ⟨hJ.go i F' H' hh hlt, fun H'' => ∃ F'' vs'', CW F2 H2 D (.lst vs'') F'' H'' ∧ PrL F'' ((xs.take (i + 1)).flatMap fun x => ((ys x).filter (p x)).map (q x)) vs'', fun H'' hn => ⟨_, by omega, rfl, hlt, hn⟩, fun v H'' hy => ?_⟩
    obtain ⟨x, F3, hx, g3, hf⟩ := hJ.yld i F' H' v H'' hh hy hlt
    have cw3 := cw.gro g3
    have hp3 := (mR _).mn g3.fx hp
    have htk : xs.take (i + 1) = xs.take i ++ [x] := by rw [List.take_succ, hx]; rfl
    have hsum : ((xs.take i).map fun x => (ys x).length).sum + (ys x).length ≤ 100000 := by
      have e1 : ((xs.take (i + 1)).map fun x => (ys x).length).sum ≤ (xs.map fun x => (ys x).length).sum := by
        conv => rhs; rw [← List.take_append_drop (i + 1) xs]
        rw [List.map_append, List.sum_append]
        omega
      rw [htk, List.map_append, List.sum_append, List.map_cons, List.map_nil, List.sum_cons, List.sum_nil] at e1
      omega
    refine hs x v F3 H'' (List.mem_of_getElem? hx) (gg.trans cw3.gr) cw3.sb hf _ fun σ2 hw ht hI hin => ⟨hw, ht F3 H'' Gr.refl cw3.sb _ fun F4 H4 g4 => ?_⟩
    rw [if_pos rfl]
    have cw4 := cw3.gro g4
    have hp4 := (mR _).mn g4.fx hp3
    refine hI F4 H4 g4 cw4.sb _ fun J1 F5 H5 g5 hJ1 => ?_
    have cw5 := cw4.gro g5
    have hp5 := (mR _).mn g5.fx hp4
    refine ⟨fun j n K' => n = (ys x).length - j ∧ j ≤ (ys x).length ∧ ∃ F' vs', Same F5 F' ∧ CW F2 H2 D (.lst vs') F' K' ∧ Gr F3 H'' F5 H5 ∧ PrL F' (((xs.take i).flatMap fun x => ((ys x).filter (p x)).map (q x)) ++ (((ys x).take j).filter (p x)).map (q x)) vs', ⟨(ys x).length, rfl, Nat.zero_le _, F5, vs', Same.refl _, cw5, g4.trans g5, by simp; exact hp5⟩, ?_⟩
    rintro j n K' ⟨rfl, hj', F6, vs6, s6, cw6, _, hp6⟩
    have hh6 : Hold F5 none F6 K' := ⟨s6, cw6.sb, fun _ _ _ z => by cases z⟩
    by_cases hjt : j < (ys x).length
    · refine .inr ⟨hJ1.go j F6 K' hh6 hjt, fun K'' => ∃ F'' vs'', Same F5 F'' ∧ CW F2 H2 D (.lst vs'') F'' K'' ∧ PrL F'' (((xs.take i).flatMap fun x => ((ys x).filter (p x)).map (q x)) ++ (((ys x).take (j + 1)).filter (p x)).map (q x)) vs'', fun K'' ⟨F'', vs'', a, b, c⟩ => ⟨_, by omega, rfl, hjt, F'', vs'', a, b, g4.trans g5, c⟩, fun w K'' hyw => ?_⟩
      obtain ⟨y, F7, hyy, g7, hf7⟩ := hJ1.yld j F6 K' w K'' hh6 hyw hjt
      have cw7 := cw6.gro g7
      have hp7 := (mR2 _ x _).mn g7.fx hp6
      have s37 : Same F3 F7 := ((g4.trans g5).fx.trans s6).trans g7.fx
      refine hin y w F7 K'' (List.mem_of_getElem? hyy) (gg.trans cw7.gr) s37 cw7.sb hf7 _ fun σ3 hw3 ht3 he3 => ⟨hw3, ht3 F7 K'' Gr.refl cw7.sb _ fun F8 H8 g8 => ?_⟩
      have cw8 := cw7.gro g8
      have hp8 := (mR2 _ x _).mn g8.fx hp7
      have htj : ((ys x).take (j + 1)).filter (p x) = ((ys x).take j).filter (p x) ++ (if p x y then [y] else []) := take_filter_snoc hyy
      rw [htj]
      by_cases e : p x y = true
      · rw [if_pos e]
        refine he3 e F8 H8 g8 cw8.sb _ fun z F9 H9 g9 hz9 => ?_
        have cw9 := cw8.gro g9
        have hp9 := (mR2 _ x _).mn g9.fx hp8
        have l9 : vs6.length ≤ 100000 := by
          have h1 := hp9.length
          rw [List.length_append, List.length_map] at h1
          have h2 := List.length_filter_le (p x) ((ys x).take j)
          have h3 := List.length_take_le j (ys x)
          have h4 := lenR (xs.take i)
          omega
        refine ⟨vs6, cw9.h, Nat.lt_of_le_of_lt l9 (by decide), F9, vs6 ++ [z], ((s6.trans g7.fx).trans g8.fx).trans g9.fx, cw9.set rfl, ?_⟩
        rw [if_pos e, List.map_append, ← List.append_assoc]
        exact hp9.append (.one hz9)
      · rw [if_neg e, if_neg e, List.append_nil]
        exact ⟨F8, vs6, (s6.trans g7.fx).trans g8.fx, cw8, hp8⟩
    · have e : j = (ys x).length := by omega
      subst e
      rw [List.take_length] at hp6
      refine .inl ⟨hJ1.stop _ F6 K' hh6 (Nat.le_refl _), F6, vs6, cw6, ?_⟩
      rw [htk, List.flatMap_append]
      simpa using hp6
  · have e : i = xs.length := by omega
    subst e
    rw [List.take_length] at hp
    obtain ⟨gz, sz⟩ := cw.frz
    exact .inl ⟨hJ.stop _ F' H' hh (Nat.le_refl _), hQ _ _ _ (gB.trans gz) ⟨D, vs', rfl, upd_same, (mR _).mn sz hp⟩⟩
end
/-- x = .. while a frozen dict is locked -/
theorem w_lockSet {F0 H0 F H : Hp} {L : List (Addr × HO)} {σ : L2.St} {D : Ends} {te : TE} {P : Pr} {d : Addr} {u : HO} {i : Nat} (W : Wr F0 H0 L F H none) (hF : F d = some u) (hd : isDct u = true) (hm : Mut (some u)) (h : ∀ od, EvP te σ F (upd H d (.frz od u)) P)
    (c : ∀ v F1 H1, Same F F1 → Wr F0 H0 L F1 H1 none → P F1 v → D.nx (σ.set i (some v)) H1) : tLock (tAsg te (gName i)) D σ H := by
  refine ⟨d, u, W.sm _ _ hF, hm, fun od => ?_⟩
  have W1 := W.lockF hF hd od
  refine h od F _ Gr.refl W1.sub _ fun v F2 H2 g2 p => ?_
  have W2 := W1.gro g2
  exact ⟨(W2.lk _ _ _ rfl).1, c v F2 _ g2.fx W2.unlockF p⟩
/-! greatest_in: the greatest priority within a part, -1 where none is -/
def Inn (g : Gph Int) (t : Tag) : Prop := ∃ u v, (t, v) ∈ adj g u ∧ Co g u v
def GrOk (g : Gph Int) (M : Int) : Prop := (M = -1 ∨ ∃ t, Inn g t ∧ t.2.1 = M) ∧ -1 ≤ M ∧ ∀ t, Inn g t → t.2.1 ≤ M
def spGI : Sp := fun vs H Q _ => ∃ (F : Hp) (g : Gph Int) (v : V), vs = [v] ∧ Same F H ∧ pG g F v ∧ Wf g ∧ cap g ≤ 10000 ∧ Ret F H (isEx (fun M : Int => isV (.int M)) (GrOk g)) Q
theorem sc_greatest_in : FnScope ["edges", "part", "found", "node", "tag", "target"] ["edges"] (defScope sGreatestIn) := ⟨rfl, rfl, rfl, by decide +kernel, rfl, by decide +kernel, by decide +kernel⟩
theorem sumL_cap {N : Type} [DecidableEq N] (g : Gph N) : (g.map fun p => p.2.length).sum ≤ cap g := by
  have h1 := wgt_nil (N := N) g
  have h2 : sumL g = (g.map fun p => p.2.length).sum := rfl
  unfold cap
  omega
theorem adj_keys {N : Type} [DecidableEq N] {g : Gph N} (W : (keys g).Nodup) : (keys g).map (fun n => (adj g n).length) = g.map fun p => p.2.length := by
  rw [List.map_map]
  refine List.map_congr_left fun p hp => ?_
  have : luk g p.1 = some p.2 := luk_of_mem W hp
  show (adj g p.1).length = _
  unfold adj
  rw [this]
  rfl
section
variable {P : Program} {w : World} {K : PySem.W.Frag} {mg : Str → Option Value} {base : Heap}
theorem ok_greatest_in (E : Tops K mg) : Cal P w K mg base 3 "greatest_in" ["edges"] spGI := by
  have c_strong_parts : Cal P w K mg base 2 "strong_parts" ["edges"] (spSP Int) := ok_strong_parts Int E
  refine Cal.of E.f_GreatestIn E.g_greatest_in sc_greatest_in (fun _ _ _ _ _ _ us hl => match us, hl with | [_], _ => rfl) (fun vs H Q Ex h => ?_) (fun cdv A outer s H vs Q Ex hr h => ?_)
  · obtain ⟨F, g, v, rfl, _⟩ := h
    rfl
  · obtain ⟨F, g, v, rfl, s0, hg, Wg, sm, k⟩ := h
    refine ⟨_, (pss_cons (ps_set (i := 1) sc_greatest_in.nd rfl (.inr rfl) (pe_cal c_strong_parts (hr.mono (by decide)) rfl (pa_cons (pv 0) pa_nil)))
      (pss_cons (ps_lock (ps_setLc2 (i := 2) (own := [("node", 3), ("tag", 4), ("target", 5)]) (vs1 := [4, 5]) rfl sc_greatest_in.nd rfl rfl (sw_true rfl rfl rfl (by decide +kernel)) (pi_keys (pv 0)) (blkOk_by (N := ["edges", "part", "found", "node", "tag", "target"]) (sc := defScope sGreatestIn) (by decide +kernel)) (by decide) (fun _ _ _ _ _ => (pg_name (i := 3) sc_greatest_in.nd rfl (.inl rfl))) (fun _ _ _ _ _ => pts_nil) (fun _ _ _ _ _ => (pi_listK (K := K) rfl (pe_dget (hu_of hr) (pv 0) (pv 3) (fun _ _ => rfl)))) (fun _ _ _ _ _ => (pg_tupK (K := K) (n := 2) rfl rfl (pgs_cons (pg_name (i := 4) sc_greatest_in.nd rfl (.inl rfl)) (pgs_cons (pg_name (i := 5) sc_greatest_in.nd rfl (.inl rfl)) pgs_nil)))) (fun _ _ _ _ _ => pts_one (pt_cmpR op_eq (pe_dget (hu_of hr) (pv 1) (pv 3) (fun _ _ => rfl)) (pe_dget (hu_of hr) (pv 1) (pv 5) (fun _ _ => rfl)) (nomark _))) (fun _ _ _ _ _ => (pe_ix (ix_tupK (K := K) rfl) (pv 4) pe_int (fun _ _ => rfl)))))
      (pss_one (ps_ret (pe_callB (cr_maxK (K := K) rfl rfl) (by rfl) E.n_max bt_max (pa_cons (pe_op L2.op_cat (pv 2) (pe_lst (pa_cons (pe_un un_neg pe_int) pa_nil))) pa_nil)))))), ?_⟩
    obtain ⟨a, l, rfl, hF, hk, hn, hp⟩ := id hg
    have W0 := Wr.start s0
    have hkeys : l.map (·.1) = keys g := by rw [hk, map_fst_pG]
    refine w_seq (w_set W0 (P := isEx (fun part : List (Int × Int) => pPart part) (PartOk g)) (ev_call s0 (ea_cons (P := pG g) (ev_var rfl inferInstance hg) inferInstance ea_nil) fun F1 H1 vs Q1 g1 s1 hvs r1 => ?_) fun vp F1 H1 g1 W1 ⟨part, hP, hpa⟩ => ?_)
    · cases hvs with
      | cons h1 hvs =>
        cases hvs
        exact ⟨F1, g, _, rfl, s1, h1, Wg, sm, r1⟩
    have hg1 := (inferInstance : Mn (pG g)).mn g1.fx hg
    let inn : List Int := (keys g).flatMap fun n => ((adj g n).filter fun e => decide (luk part n = luk part e.2)).map fun e => e.1.2.1
    have hsum : ((keys g).map fun n => (adj g n).length).sum ≤ 100000 := by
      have := sumL_cap g
      rw [adj_keys Wg.nd]
      omega
    have hil : inn.length ≤ cap g := by
      have : ∀ ks : List Int, (ks.flatMap fun n => ((adj g n).filter fun e => decide (luk part n = luk part e.2)).map fun e => e.1.2.1).length ≤ (ks.map fun n => (adj g n).length).sum := by
        intro ks
        induction ks with
        | nil => exact Nat.le_refl _
        | cons n ks ih =>
          rw [List.flatMap_cons, List.length_append, List.length_map, List.map_cons, List.sum_cons]
          have := List.length_filter_le (fun e : Tag × Int => decide (luk part n = luk part e.2)) (adj g n)
          omega
      have h2 := this (keys g)
      rw [adj_keys Wg.nd] at h2
      exact Nat.le_trans h2 (sumL_cap g)
    have hmem : ∀ M, M ∈ inn ↔ ∃ t, Inn g t ∧ t.2.1 = M := fun M => by
      constructor
      · intro h
        obtain ⟨n, hn, h⟩ := List.mem_flatMap.mp h
        obtain ⟨e, he, rfl⟩ := List.mem_map.mp h
        obtain ⟨h1, h2⟩ := List.mem_filter.mp he
        obtain ⟨c, hc⟩ := hP.at hn
        have h2 := of_decide_eq_true h2
        rw [hc] at h2
        exact ⟨e.1, ⟨n, e.2, h1, (hP.co n e.2 c c hc h2.symm).mp rfl⟩, rfl⟩
      · rintro ⟨t, ⟨u, v, h1, h2⟩, rfl⟩
        have hu : u ∈ keys g := Ed.key ⟨t, h1⟩
        obtain ⟨c, hc⟩ := hP.at hu
        obtain ⟨c', hc'⟩ := hP.at (Wg.cl u v ⟨t, h1⟩)
        have e : c = c' := (hP.co u v c c' hc hc').mpr h2
        refine List.mem_flatMap.mpr ⟨u, hu, List.mem_map.mpr ⟨(t, v), List.mem_filter.mpr ⟨h1, ?_⟩, rfl⟩⟩
        rw [hc, hc', e]
        simp
    refine w_seq (w_lockSet W1 (P := isIs inn) (g1.fx _ _ hF) (ndInt.dct l) (ndInt.mt l) (fun od => ?_) fun vf F3 H3 s3 W3 hf => ?_)
    · have := ev_lc2 (te := tOp (rIxT K) (tVar 4) (tC (.int 1))) (σ := [some (.ref a), some vp, none, none, none, none]) (F := F1) (H := upd H1 a (.frz od (ndInt.dic l))) (xs := keys g) (f := fun n => Nd.nd n) (ys := fun n => adj g n) (f1 := fun _ e => pE e) (p := fun n e => decide (luk part n = luk part e.2)) (q := fun _ e => isV (.int e.1.2.1)) (wi1 := iList K (tDGet (tVar 0) (tVar 3))) (g := gName 3) (g1 := gTup K 2 (gCons (gName 4) (gCons (gName 5) gNil))) (tt := tYes)
        (tt1 := tTest (tOp rEq (tDGet (tVar 1) (tVar 3)) (tDGet (tVar 1) (tVar 5)))) (vs := [3, 4, 5]) (vs1 := [4, 5]) (by
          have := ei_keys (F := F1) (j := 0) (l := l) (σ := [some (.ref a), some vp, none, none, none, none]) rfl (upd_same (H := H1) (o := .frz od (ndInt.dic l)))
          rw [hkeys] at this
          exact this) (fun d' od' u e => by cases e; exact upd_same) hsum (fun _ _ => inferInstance) fun n vn F4 H4 hnk g4 s4 hvn Q4 hQ4 => ?_
      · have e : ((keys g).flatMap fun n => ((adj g n).filter fun e => decide (luk part n = luk part e.2)).map fun e => isV (V.int e.1.2.1)) = inn.map fun n => isV (.int n) := by
          show _ = List.map _ (List.flatMap _ _)
          rw [List.map_flatMap]
          refine congrArg (fun f => (keys g).flatMap f) (funext fun n => ?_)
          rw [List.map_map]
          rfl
        rw [e] at this
        exact this
      · have hg4 := (inferInstance : Mn (pG g)).mn g4.fx hg1
        have hvn : Nd.nd n F4 vn := hvn
        refine hQ4 _ rfl et_yes (ei_list (f := pE) (xs := adj g n) (ev_adj (ev_var rfl inferInstance hg4) (ev_var rfl inferInstance hvn) hnk) fun _ => inferInstance) fun e ve F5 H5 hem g5 s45 sb5 he Q5 hQ5 => ?_
        have hp5 := (inferInstance : Mn (pPart part)).mn g5.fx hpa
        have hvn5 := (inferInstance : Mn (Nd.nd n)).mn s45 hvn
        obtain ⟨c, hc⟩ := hP.at hnk
        obtain ⟨c', hc'⟩ := hP.at (Wg.cl n e.2 ⟨e.1, hem⟩)
        refine tg_tup2 sb5 he fun v1 v2 h1 h2 => hQ5 _ rfl ((et_test (ev_op (ev_part (ev_var rfl inferInstance hp5) (ev_var rfl inferInstance hvn5) hc) (ev_part (ev_var rfl inferInstance hp5) (ev_var (P := Nd.nd e.2) rfl inferInstance h2) hc') inferInstance (op_Eq rfl))).is ?_) fun _ => ?_
        · rw [hc, hc']
          by_cases z : c = c'
          · rw [z]; simp
          · rw [decide_eq_false (fun q => z (by injection q)), decide_eq_false (fun q => z (by injection q))]
        · exact ev_op (Pa := isTup [isV (.str e.1.1), isV (.int e.1.2.1), isV (.int e.1.2.2)]) (ev_var rfl inferInstance h1) ev_c inferInstance (op_ixT (by rfl))
    · have hcat : EvP (tOp rCat (tVar 2) (tLst (tCons (tUn (rU fun i => .int (-i)) (tC (.int 1))) tNil))) [some (.ref a), some vp, some vf, none, none, none] F3 H3 (isIs (inn ++ [-1])) := by
        have := ev_op (ev_var (σ := [some (.ref a), some vp, some vf, none, none, none]) (i := 2) (H := H3) (P := isIs inn) rfl inferInstance hf) (ev_lst (Ps := [isV (.int (-1))]) (ea_cons (ev_neg1 (i := 1) ev_c) inferInstance ea_nil) inferInstance) inferInstance (op_cat (by rw [List.length_map]; simp; omega) (mnl_map (fun _ => inferInstance) _) inferInstance)
        exact EvP.imp this fun F v h => by
          show isLst ((inn ++ [-1]).map _) F v
          rw [List.map_append]
          exact h
      refine w_ret W3 (P := isEx (fun M : Int => isV (.int M)) (GrOk g)) (EvP.imp (ev_cb (ea_cons hcat inferInstance ea_nil) (ca_max (K := K) (by simp))) fun F v ⟨M, ⟨h1, h2⟩, h3⟩ => ⟨M, ⟨?_, ?_, fun t ht => ?_⟩, h3⟩) fun v4 F4 H4 g4 W4 h4 => k v4 F4 H4 W4.gr h4
      · rcases List.mem_append.mp h1 with z | z
        · exact .inr ((hmem M).mp z)
        · exact .inl (List.mem_singleton.mp z)
      · exact h2 _ (by simp)
      · exact h2 _ (List.mem_append_left _ ((hmem _).mpr ⟨t, ht, rfl⟩))
end
end EL

set_option Elab.async false
set_option linter.all false
set_option maxRecDepth 100000
set_option maxHeartbeats 2000000
namespace EL
open PySem PySem.Spec PyProof.Rows L2
theorem sub_keys {N : Type} [DecidableEq N] {g : Gph N} (W : (keys g).Nodup) (c : Tag × N → Bool) : sub g (fun _ => true) c = (keys g).map fun n => (n, (adj g n).filter c) := by
  unfold sub
  rw [List.filter_eq_self.mpr fun _ _ => rfl, List.map_map]
  refine List.map_congr_left fun p hp => ?_
  have : luk g p.1 = some p.2 := luk_of_mem W hp
  show (p.1, _) = (p.1, _)
  unfold adj
  rw [this]
  rfl
def bl (g : Gph Int) (t : Int) : Gph Int := sub g (fun _ => true) fun e => decide (e.1.2.1 < t)
theorem bl_keys {g : Gph Int} {t : Int} : keys (bl g t) = keys g := by unfold bl; rw [keys_sub]; simp
theorem bl_adj {g : Gph Int} {t : Int} {n : Int} : adj (bl g t) n = (adj g n).filter fun e => decide (e.1.2.1 < t) := adj_sub (nc := fun _ => true) rfl
theorem bl_mem {g : Gph Int} {t : Int} {u v : Int} {tg : Tag} : (tg, v) ∈ adj (bl g t) u ↔ (tg, v) ∈ adj g u ∧ tg.2.1 < t := by
  rw [bl_adj, List.mem_filter]
  simp
theorem bl_wf {g : Gph Int} {t : Int} (W : Wf g) : Wf (bl g t) := ⟨by rw [bl_keys]; exact W.nd, fun u v ⟨tg, h⟩ => by rw [bl_keys]; exact W.cl u v ⟨tg, (bl_mem.mp h).1⟩⟩
def spBl : Sp := fun vs H Q _ => ∃ (F : Hp) (g : Gph Int) (v : V) (t : Int), vs = [v, .int t] ∧ Same F H ∧ pG g F v ∧ Wf g ∧ cap g ≤ 10000 ∧ Ret F H (pG (bl g t)) Q
theorem sc_below : FnScope ["edges", "priority", "node", "tag", "target"] ["edges", "priority"] (defScope sBelow) := ⟨rfl, rfl, rfl, by decide +kernel, rfl, by decide +kernel, by decide +kernel⟩
section
variable {P : Program} {w : World} {K : PySem.W.Frag} {mg : Str → Option Value} {base : Heap}
theorem ok_below (E : Tops K mg) : Cal P w K mg base 1 "below" ["edges", "priority"] spBl := by
  refine Cal.of E.f_Below E.g_below sc_below (fun _ _ _ _ _ _ us hl => match us, hl with | [_, _], _ => rfl) (fun vs H Q Ex h => ?_) (fun cdv A outer s H vs Q Ex hr h => ?_)
  · obtain ⟨F, g, v, t, rfl, _⟩ := h
    rfl
  · obtain ⟨F, g, v, t, rfl, s0, hg, Wg, sm, k⟩ := h
    refine ⟨_, (pss_one (ps_ret (by exact pe_lock (pe_dcN (nn := ndInt) (own := [("node", 2)]) (hu_of hr) rfl sc_below.nd (pi_keys (pv 0)) (blkOk_by (N := ["edges", "priority", "node", "tag", "target"]) (sc := defScope sBelow) (by decide +kernel)) (fun _ _ _ _ _ => (pg_name (i := 2) sc_below.nd rfl (.inl rfl))) (fun _ _ _ _ _ => pts_nil) (fun _ _ _ _ _ => (pv 2)) (fun _ _ _ _ _ => (by exact pe_lc (own := [("tag", 3), ("target", 4)]) rfl sc_below.nd (pi_listK (K := K) rfl (pe_dget (hu_of hr) (pv 0) (pv 2) (fun _ _ => rfl))) (blkOk_by (N := ["edges", "priority", "node", "tag", "target"]) (sc := ({ kind := .function, names := [(".0", .local), ("node", .local), ("edges", .cell), ("priority", .cell)], isGenerator := false, isCoroutine := false })) (by decide +kernel)) (fun _ _ _ _ _ => (pg_tupK (K := K) (n := 2) rfl rfl (pgs_cons (pg_name (i := 3) sc_below.nd rfl (.inl rfl)) (pgs_cons (pg_name (i := 4) sc_below.nd rfl (.inl rfl)) pgs_nil)))) (fun _ _ _ _ _ => pts_one (pt_cmpR op_lt (pe_ix (ix_tupK (K := K) rfl) (pv 3) pe_int (fun _ _ => rfl)) (pv 1) (nomark _))) (fun _ _ _ _ _ => (pe_tup (pa_cons (pv 3) (pa_cons (pv 4) pa_nil)))))))))), ?_⟩
    obtain ⟨a, l, rfl, hF, hk, hn, hp⟩ := id hg
    have W0 := Wr.start s0
    have hkeys : l.map (·.1) = keys g := by rw [hk, map_fst_pG]
    have hgl : g.length ≤ cap g := by unfold cap; omega
    refine w_ret W0 (P := pG (bl g t)) (ev_lock hF (s0 _ _ hF) (ndInt.dct l) (ndInt.mt l) fun F2 H2 od g2 => ?_) fun v4 F4 H4 g4 W4 h4 => k v4 F4 H4 W4.gr h4
    have hg2 := (inferInstance : Mn (pG g)).mn g2.fx hg
    have := ev_dc (N := Int) (tk := tVar 2) (tv := tLc (iList K (tDGet (tVar 0) (tVar 2))) (gTup K 2 (gCons (gName 3) (gCons (gName 4) gNil))) (tTest (tOp (rI0 fun i j => .bl (decide (i < j))) (tOp (rIxT K) (tVar 3) (tC (.int 1))) (tVar 1))) (tTup (tCons (tVar 3) (tCons (tVar 4) tNil))) [3, 4]) (g := gName 2) (vs := [2])
      (σ := [some (.ref a), some (.int t), none, none, none]) (F := F2) (H := upd H2 a (.frz od (ndInt.dic l))) (xs := keys g) (f := fun n => Nd.nd n) (kf := id) (q := fun n => pEs ((adj g n).filter fun e => decide (e.1.2.1 < t))) (by
        have := ei_keys (F := F2) (j := 0) (l := l) (σ := [some (.ref a), some (.int t), none, none, none]) rfl (upd_same (H := H2) (o := .frz od (ndInt.dic l)))
        rw [hkeys] at this
        exact this) (fun d' od' u e => by cases e; exact upd_same) (by show (g.map _).length ≤ _; rw [List.length_map]; omega) (by rw [List.map_id]; exact Wg.nd) (fun _ => inferInstance) fun n vn F4 H4 hnk g4 s4 hvn Q4 hQ4 => ?_
    · have e : ((keys g).map fun n => (id n, pEs ((adj g n).filter fun e => decide (e.1.2.1 < t)))) = (bl g t).map fun p => (p.1, pEs p.2) := by
        unfold bl
        rw [sub_keys Wg.nd]
        simp only [List.map_map]
        rfl
      rw [e] at this
      exact this
    · have hvn : Nd.nd n F4 vn := hvn
      have hg4 := (inferInstance : Mn (pG g)).mn g4.fx hg2
      have hae : (adj g n).length ≤ 100000 := Nat.le_trans (adj_cap Wg.nd hnk) (by omega)
      refine hQ4 _ rfl (ev_var rfl inferInstance hvn) (ev_lc (q := pE) (ei_list (f := pE) (k := none) (xs := adj g n) (ev_adj (ev_var rfl inferInstance hg4) (ev_var rfl inferInstance hvn) hnk) fun _ => inferInstance) (fun _ _ _ z => by cases z) hae (fun _ => inferInstance) fun e ve F5 H5 _ g5 s5 he Q5 hQ5 => ?_)
      refine tg_tup2 s5 he fun v1 v2 h1 h2 => hQ5 _ rfl (et_test (ev_op (ev_op (Pa := isTup [isV (.str e.1.1), isV (.int e.1.2.1), isV (.int e.1.2.2)]) (ev_var rfl inferInstance h1) ev_c inferInstance (op_ixT (by rfl))) (ev_varV rfl) inferInstance op_I0)) fun _ => ev_tup (ea_cons (ev_var rfl inferInstance h1) inferInstance (ea_cons (ev_var rfl inferInstance h2) inferInstance ea_nil)) inferInstance
end
/-! parts_of -/
def hasE (h : Gph Int) : Bool := (keys h).any fun n => !(adj h n).isEmpty
def compN (g : Gph Int) (part : List (Int × Int)) (i : Nat) : Gph Int := comp g part (i : Int)
def PartsOk (g : Gph Int) (gs : List (Gph Int)) : Prop := ∃ part, PartOk g part ∧ gs = ((List.range part.length).map (compN g part)).filter hasE
theorem op_neNilP {K : PySem.W.Frag} {F H : Hp} {Ps : List Pr} : OpP (rNeNil K) (isLst Ps) (isLst []) (isV (.bl (!Ps.isEmpty))) F H := op_val fun F1 H1 x y g s ⟨a, vs, e, ha, hv⟩ ⟨b, ws, e', hb, hw⟩ Q q => by
  cases hw
  refine ⟨a, b, vs, e, e', SqL.of (s.lst ha), SqL.of (s.lst hb), ?_⟩
  have : vs.isEmpty = Ps.isEmpty := by
    cases hv with
    | nil => rfl
    | cons _ _ => rfl
  rw [this]
  exact q
def spPO : Sp := fun vs H Q _ => ∃ (F : Hp) (g : Gph Int) (v : V), vs = [v] ∧ Same F H ∧ pG g F v ∧ Wf g ∧ cap g ≤ 10000 ∧ Ret F H (isEx (fun gs : List (Gph Int) => isLst (gs.map pG)) (PartsOk g)) Q
theorem sc_parts_of : FnScope ["edges", "part", "found", "number", "inside", "node", "tag", "target"] ["edges"] (defScope sPartsOf) := ⟨rfl, rfl, rfl, by decide +kernel, rfl, by decide +kernel, by decide +kernel⟩
section
variable {P : Program} {w : World} {K : PySem.W.Frag} {mg : Str → Option Value} {base : Heap}
theorem ok_parts_of (E : Tops K mg) : Cal P w K mg base 3 "parts_of" ["edges"] spPO := by
  have c_strong_parts : Cal P w K mg base 2 "strong_parts" ["edges"] (spSP Int) := ok_strong_parts Int E
  refine Cal.of E.f_PartsOf E.g_parts_of sc_parts_of (fun _ _ _ _ _ _ us hl => match us, hl with | [_], _ => rfl) (fun vs H Q Ex h => ?_) (fun cdv A outer s H vs Q Ex hr h => ?_)
  · obtain ⟨F, g, v, rfl, _⟩ := h
    rfl
  · obtain ⟨F, g, v, rfl, s0, hg, Wg, sm, k⟩ := h
    refine ⟨_, (pss_cons (ps_asg (pe_tup (pa_cons (pe_cal c_strong_parts (hr.mono (by decide)) rfl (pa_cons (pv 0) pa_nil)) (pa_cons (pe_lst pa_nil) pa_nil))) (pg_tupK (K := K) (n := 2) rfl rfl (pgs_cons (pg_name (i := 1) sc_parts_of.nd rfl (.inr rfl)) (pgs_cons (pg_name (i := 2) sc_parts_of.nd rfl (.inl rfl)) pgs_nil))))
      (pss_cons (ps_for PassesOwn.never rfl (pi_range1 (by rfl) E.n_range (pa_cons (pe_callB call_lenD (by rfl) E.n_len bt_len (pa_cons (pv 1) pa_nil)) pa_nil)) (pg_name (i := 3) sc_parts_of.nd rfl (.inr rfl))
        (pss_cons (ps_set (i := 4) sc_parts_of.nd rfl (.inr rfl) pe_dnewK)
        (pss_cons (ps_lock (ps_for PassesOwn.never rfl (pi_keys (pv 0)) (pg_name (i := 5) sc_parts_of.nd rfl (.inl rfl))
          (pss_one (ps_if (pt_cmpR op_eq (pe_dget (hu_of hr) (pv 1) (pv 5) (fun _ _ => rfl)) (pv 3) (nomark _))
            (pss_one (ps_dput (hu_of hr) (pv 4) (pv 5) (by exact pe_lc (own := [("tag", 6), ("target", 7)]) rfl sc_parts_of.nd (pi_listK (K := K) rfl (pe_dget (hu_of hr) (pv 0) (pv 5) (fun _ _ => rfl))) (blkOk_by (N := ["edges", "part", "found", "number", "inside", "node", "tag", "target"]) (sc := defScope sPartsOf) (by decide +kernel)) (fun _ _ _ _ _ => (pg_tupK (K := K) (n := 2) rfl rfl (pgs_cons (pg_name (i := 6) sc_parts_of.nd rfl (.inl rfl)) (pgs_cons (pg_name (i := 7) sc_parts_of.nd rfl (.inl rfl)) pgs_nil)))) (fun _ _ _ _ _ => pts_one (pt_cmpR op_eq (pe_dget (hu_of hr) (pv 1) (pv 7) (fun _ _ => rfl)) (pv 3) (nomark _))) (fun _ _ _ _ _ => (pe_tup (pa_cons (pv 6) (pa_cons (pv 7) pa_nil))))) rfl))
            pss_nil))))
        (pss_one (ps_if (pt_val (pe_callB (cr_anyK (K := K) rfl rfl) (by rfl) E.n_any bt_any (pa_cons (pe_lock (by exact pe_lc (own := [("node", 5)]) rfl sc_parts_of.nd (pi_keys (pv 4)) (blkOk_by (N := ["edges", "part", "found", "number", "inside", "node", "tag", "target"]) (sc := defScope sPartsOf) (by decide +kernel)) (fun _ _ _ _ _ => (pg_name (i := 5) sc_parts_of.nd rfl (.inl rfl))) (fun _ _ _ _ _ => pts_nil) (fun _ _ _ _ _ => (pe_cmpR (op_neNilK (K := K) rfl hr.units0) (pe_dget (hu_of hr) (pv 4) (pv 5) (fun _ _ => rfl)) (pe_lst pa_nil) (nomark _))))) pa_nil)))
          (pss_one (ps_expr (pe_bmK (K := K) rfl PySem.F.plainAttrs_list PySem.F.slot_list_append PySem.F.type_list_append mt_append (pv 2) (pa_cons (pv 4) pa_nil))))
          pss_nil)))))
      (pss_one (ps_ret (pv 2))))), ?_⟩
    obtain ⟨a, l, rfl, hF, hk, hn, hp⟩ := id hg
    have W0 := Wr.start s0
    have hkeys : l.map (·.1) = keys g := by rw [hk, map_fst_pG]
    have hll : l.length = g.length := by have := congrArg List.length hkeys; simpa using this
    have hgl : g.length ≤ cap g := by unfold cap; omega
    refine w_seq (w_tupXL (P := isEx (fun part : List (Int × Int) => pPart part) (PartOk g)) W0 (ev_call s0 (ea_cons (P := pG g) (ev_var rfl inferInstance hg) inferInstance ea_nil) fun F1 H1 vs Q1 g1 s1 hvs r1 => ?_) inferInstance fun vp pL F1 H1 s1 W1 ⟨part, hP, hpa⟩ => ?_)
    · cases hvs with
      | cons h1 hvs =>
        cases hvs
        exact ⟨F1, g, _, rfl, s1, h1, Wg, sm, r1⟩
    have hpl : part.length ≤ g.length := by
      have := nd_len hP.nd (m := keys g) fun x hx => (hP.all x).mp hx
      simpa [keys] using this
    have hlenP : EvP (tCB (fun xs H Q => ∃ a kvs, xs = [V.ref a] ∧ H a = some (HO.dK kvs) ∧ Q (V.int ↑kvs.length) H) (tCons (tVar 1) tNil)) [some (.ref a), some vp, some (.ref pL), none, none, none, none, none] F1 H1 (isV (.int ((part.length : Nat) : Int))) := by
      have := ev_cb (ea_cons (ev_var (σ := [some (.ref a), some vp, some (.ref pL), none, none, none, none, none]) (i := 1) (H := H1) (P := pPart part) rfl inferInstance hpa) inferInstance ea_nil) (ca_lenD (kps := part.map fun p => (p.1, isV (.int p.2))) W1.same)
      rw [List.length_map] at this
      exact this
    refine w_seq (w_forI (xs := List.range part.length) (Y := fun _ i => isV (.int ((i : Nat) : Int))) W1 (ei_rng1 (ea_cons hlenP inferInstance ea_nil) (by omega)) fun F2 H2 g2 W2 => ?_)
    refine ⟨fun i σ' F' H' => ∃ (gs : List (Gph Int)) (vg : List V) (x3 x4 x5 : Option V), σ' = [some (.ref a), some vp, some (.ref pL), x3, x4, x5, none, none] ∧ Wr F H [(pL, .lst vg)] F' H' none ∧ gs = ((List.range i).map (compN g part)).filter hasE ∧ PrL F' (gs.map pG) vg,
      ⟨[], [], _, _, _, rfl, W2, by simp, .nil⟩, ?_, ?_⟩
    · rintro i x vi σ' F' F3 H' H3 hi sF ⟨gs, vg, x3, x4, x5, rfl, W3, hgs, hvg⟩ g3 hvi
      have hil := (List.getElem?_eq_some_iff.mp hi).1
      rw [List.length_range] at hil
      rw [List.getElem?_range hil] at hi
      obtain rfl : i = x := Option.some.inj hi
      obtain rfl : vi = .int (i : Int) := hvi
      have W4 := W3.gro g3
      have hvg4 := (mnl_map (fun _ => inferInstance) _ : MnL (gs.map pG)).mn g3.fx hvg
      have s04 : Same F F3 := ((s1.trans g2.fx).trans sF).trans g3.fx
      have s14 : Same F1 F3 := (g2.fx.trans sF).trans g3.fx
      -- inside = {}
      refine w_seq (w_newD (N := Int) W4 fun Dd H5 W5 => ?_)
      refine w_seq (w_fill (jd := 0) (Dd := Dd) W5 rfl (s04 _ _ hF) rfl (by rw [hkeys]; exact Wg.nd) (by omega) (fun n => decide (luk part n = some (i : Int))) (fun n => pEs ((adj g n).filter fun e => decide (luk part e.2 = some (i : Int)))) (fun _ => inferInstance)
        (fun σ => ∃ x5, σ = [some (.ref a), some vp, some (.ref pL), some (.int (i : Int)), some (.ref Dd), x5, none, none]) ⟨_, rfl⟩ ?_ ?_)
      · rintro n v σ' F' H' k kvs hn sF ⟨x6, rfl⟩ W6 hnd hnd2 hz D' hD1 hD2
        rw [hkeys] at hn
        obtain ⟨cn, hcn⟩ := hP.at hn
        have hgF : pG g F' (.ref a) := (inferInstance : Mn (pG g)).mn (s04.trans sF) hg
        have hpF : pPart part F' vp := (inferInstance : Mn (pPart part)).mn (s14.trans sF) hpa
        have hdc : ∀ {n cn : Int}, luk part n = some cn → decide (V.int cn = V.int (i : Int)) = decide (luk part n = some (i : Int)) := fun {n cn} hcn => by
          rw [hcn]
          by_cases z : cn = (i : Int)
          · rw [z]; simp
          · rw [decide_eq_false (fun q => z (by injection q)), decide_eq_false (fun q => z (by injection q))]
        refine w_if W6 (et_test ((ev_op (ev_part (ev_var rfl inferInstance hpF) (ev_var rfl inferInstance hnd) hcn) (ev_varV rfl) inferInstance (op_Eq rfl)).is (by rw [hdc hcn]))) (fun hb F7 H7 g7 W7 => ?_) (fun hb F7 H7 g7 W7 => ?_)
        · have hae : (adj g n).length ≤ 100000 := Nat.le_trans (adj_cap Wg.nd hn) (by omega)
          have hg7 := (inferInstance : Mn (pG g)).mn g7.fx hgF
          have hp7 := (inferInstance : Mn (pPart part)).mn g7.fx hpF
          have hn7 := (inferInstance : Mn (Nd.nd n)).mn g7.fx hnd
          refine w_dput W7 (j := 0) (P := pEs ((adj g n).filter fun e => decide (luk part e.2 = some (i : Int)))) rfl hnd2 hz (ev_varV rfl) (ev_var rfl inferInstance hn7)
            (ev_lc (q := pE) (ei_list (f := pE) (k := none) (xs := adj g n) (ev_adj (ev_var rfl inferInstance hg7) (ev_var rfl inferInstance hn7) hn) fun _ => inferInstance) (fun _ _ _ z => by cases z) hae (fun _ => inferInstance) fun e ve F8 H8 hm g8 s8 he Q8 hQ8 => ?_) inferInstance fun vl F9 H9 g9 W9 hl9 => ?_
          · obtain ⟨ce, hce2⟩ := hP.at (Wg.cl n e.2 ⟨e.1, hm⟩)
            refine tg_tup2 s8 he fun v1 v2 h1 h2 => hQ8 _ rfl (et_test ((ev_op (ev_part (ev_var rfl inferInstance ((inferInstance : Mn (pPart part)).mn g8.fx hp7)) (ev_var (P := Nd.nd e.2) rfl inferInstance h2) hce2) (ev_varV rfl) inferInstance (op_Eq rfl)).is (by rw [hdc hce2]))) fun _ => ev_tup (ea_cons (ev_var rfl inferInstance h1) inferInstance (ea_cons (ev_var rfl inferInstance h2) inferInstance ea_nil)) inferInstance
          · exact hD2 hb _ F9 _ vl ⟨_, rfl⟩ (g7.fx.trans g9.fx) hl9 W9
        · exact hD1 hb _ F7 _ ⟨_, rfl⟩ g7.fx W7
      · rintro σ' F' H' kvs ⟨x6, rfl⟩ sF6 W6 hk2 hp2
        rw [hkeys] at hk2 hp2
        obtain ⟨W7, s7⟩ := W6.frz (j := 0) rfl (fun od u z => by
          have := ndInt.dct kvs
          rw [z] at this
          cases this)
        have hFd : upd F' Dd (ndInt.dic kvs) Dd = some (ndInt.dic kvs) := upd_same
        have hin : pG (compN g part i) (upd F' Dd (ndInt.dic kvs)) (.ref Dd) := pG_of Wg.nd upd_same hk2 ((mnl_map (fun _ => inferInstance) _).mn s7 hp2)
        have W7 : Wr F H [(pL, .lst vg)] (upd F' Dd (ndInt.dic kvs)) H' none := W7
        have s7 : Same F' (upd F' Dd (ndInt.dic kvs)) := s7
        generalize upd F' Dd (ndInt.dic kvs) = F7 at W7 s7 hin hFd
        have s37 := sF6.trans s7
        have hvg7 := (mnl_map (fun _ => inferInstance) _ : MnL (gs.map pG)).mn s37 hvg4
        have Wc := comp_wf (part := part) (c := (i : Int)) Wg
        have hkc : kvs.map (·.1) = keys (compN g part i) := by rw [hk2, compN, comp, keys_sub]
        have hcl : kvs.length ≤ 100000 := by
          have h1 := congrArg List.length hkc
          have h2 := sub_len (fun n => decide (luk part n = some (i : Int))) (fun e => decide (luk part e.2 = some (i : Int))) g
          rw [List.length_map] at h1
          have h3 : (keys (compN g part i)).length = (compN g part i).length := List.length_map _
          have h4 : (compN g part i).length ≤ g.length := h2
          omega
        dsimp only
        refine w_if W7 (b := hasE (compN g part i)) (et_B (ev_cb (ea_cons (P := isLst ((keys (compN g part i)).map fun n => isV (.bl (!(adj (compN g part i) n).isEmpty)))) (ev_lock hFd (W7.same _ _ hFd) (ndInt.dct kvs) (ndInt.mt kvs) fun F8 H8 od g8 => ?_) inferInstance ea_nil) ca_any)) (fun hb F8 H8 g8 W8 => ?_) (fun hb F8 H8 g8 W8 => ?_)
        · have := ev_lc (te := tOp (rNeNil K) (tDGet (tVar 4) (tVar 5)) (tLst tNil)) (tt := tYes) (g := gName 5) (vs := [5]) (σ := [some (.ref a), some vp, some (.ref pL), some (.int (i : Int)), some (.ref Dd), x6, none, none]) (p := fun _ => true) (q := fun n => isV (.bl (!(adj (compN g part i) n).isEmpty))) (ei_keys (F := F8) (j := 4) (l := kvs) rfl (upd_same (H := H8) (o := .frz od (ndInt.dic kvs)))) (fun d' od' u e => by cases e; exact upd_same) (by rw [List.length_map]; exact hcl) (fun _ => inferInstance) fun n vn F9 H9 hnk g9 s9 hvn Q9 hQ9 => ?_
          · rw [List.filter_eq_self.mpr fun _ _ => rfl, hkc] at this
            exact this
          · have hvn : Nd.nd n F9 vn := hvn
            rw [hkc] at hnk
            have hin9 := (inferInstance : Mn (pG (compN g part i))).mn (g8.fx.trans g9.fx) hin
            refine hQ9 _ rfl et_yes fun _ => ?_
            have := ev_op (σ := [some (.ref a), some vp, some (.ref pL), some (.int (i : Int)), some (.ref Dd), some vn, none, none]) (H := H9) (ev_adj (ta := tVar 4) (ty := tVar 5) (ev_var rfl inferInstance hin9) (ev_var rfl inferInstance hvn) hnk) (ev_lst (ta := tNil) ea_nil inferInstance) inferInstance (op_neNilP (K := K))
            rw [List.isEmpty_map] at this
            exact this
        · have hvl : vg.length ≤ i := by
            have h1 := hvg.length
            rw [List.length_map, hgs] at h1
            have h2 := List.length_filter_le hasE ((List.range i).map (compN g part))
            rw [List.length_map, List.length_range] at h2
            omega
          refine w_app W8 (j := 0) (P := pG (compN g part i)) rfl (ev_varV rfl) (ev_var rfl inferInstance ((inferInstance : Mn (pG (compN g part i))).mn g8.fx hin)) (by omega) fun va F9 H9 g9 W9 ha => ?_
          refine ⟨F9, (((sF.trans g3.fx).trans s37).trans g8.fx).trans g9.fx, W9.sub, gs ++ [compN g part i], vg ++ [va], _, _, _, rfl, W9, ?_, ?_⟩
          · rw [List.range_succ, List.map_append, List.filter_append, ← hgs]
            congr 1
            show _ = List.filter hasE [compN g part i]
            rw [List.filter_cons, if_pos hb]
            rfl
          · rw [List.map_append]
            exact ((mnl_map (fun _ => inferInstance) _ : MnL (gs.map pG)).mn (g8.fx.trans g9.fx) hvg7).append (.one ha)
        · refine ⟨F8, ((sF.trans g3.fx).trans s37).trans g8.fx, W8.sub, gs, vg, _, _, _, rfl, W8, ?_, (mnl_map (fun _ => inferInstance) _ : MnL (gs.map pG)).mn g8.fx hvg7⟩
          rw [List.range_succ, List.map_append, List.filter_append, ← hgs]
          show gs = gs ++ List.filter hasE [compN g part i]
          rw [List.filter_cons, if_neg (by rw [hb]; exact Bool.false_ne_true)]
          simp
    · rintro σ' F' H' sF ⟨gs, vg, x3, x4, x5, rfl, W3, hgs, hvg⟩
      rw [List.length_range] at hgs
      obtain ⟨W4, s4⟩ := W3.frz (j := 0) rfl (fun od u z => by cases z)
      dsimp only
      refine w_ret W4 (ev_varV rfl) fun v5 F5 H5 g5 W5 e => ?_
      obtain rfl : v5 = _ := e
      exact k _ F5 H5 W5.gr ⟨gs, ⟨part, hP, hgs⟩, pL, vg, rfl, g5.fx _ _ upd_same, (mnl_map (fun _ => inferInstance) _ : MnL (gs.map pG)).mn (s4.trans g5.fx) hvg⟩
end
end EL

set_option Elab.async false
set_option linter.all false
set_option maxRecDepth 100000
set_option maxHeartbeats 1000000
/-! walks, chains; the longest chain by parts. Plain. -/
namespace EL
open PySem
inductive Wk {N : Type} [DecidableEq N] (g : Gph N) : N → List Tag → N → Prop
  | nil (u : N) : Wk g u [] u
  | cons {u v w : N} {t : Tag} {ts : List Tag} : (t, v) ∈ adj g u → Wk g v ts w → Wk g u (t :: ts) w
section
variable {N : Type} [DecidableEq N] {g g' : Gph N} {u v w : N} {ts ts' : List Tag}
theorem Wk.app (a : Wk g u ts v) (b : Wk g v ts' w) : Wk g u (ts ++ ts') w := by
  induction a with
  | nil => exact b
  | cons h _ ih => exact .cons h (ih b)
theorem Wk.rch (a : Wk g u ts v) : Rch g u v := by
  induction a with
  | nil u => exact .refl u
  | cons h _ ih => exact .step ⟨_, h⟩ ih
theorem Rch.wk (r : Rch g u v) : ∃ ts, Wk g u ts v := by
  induction r with
  | refl u => exact ⟨[], .nil u⟩
  | step e _ ih =>
    obtain ⟨t, ht⟩ := e
    obtain ⟨ts, h⟩ := ih
    exact ⟨t :: ts, .cons ht h⟩
theorem Wk.mono (h : ∀ u t v, (t, v) ∈ adj g u → (t, v) ∈ adj g' u) (a : Wk g u ts v) : Wk g' u ts v := by
  induction a with
  | nil u => exact .nil u
  | cons e _ ih => exact .cons (h _ _ _ e) ih
theorem Wk.edge (a : Wk g u ts v) : ∀ t ∈ ts, ∃ x y, (t, y) ∈ adj g x ∧ Rch g u x ∧ Rch g y v := by
  induction a with
  | nil u => intro t h; cases h
  | @cons u v w t ts e a ih =>
    intro t' h
    rcases List.mem_cons.mp h with z | z
    · subst z; exact ⟨u, v, e, .refl u, a.rch⟩
    · obtain ⟨x, y, h1, h2, h3⟩ := ih t' z
      exact ⟨x, y, h1, .step ⟨t, e⟩ h2, h3⟩
/-- a closed walk stays in its part -/
theorem Wk.comp {part : List (N × Int)} {c : Int} (P : PartOk g part) (W : Wf g) (a : Wk g u ts v) (hb : Rch g v u) (hu : luk part u = some c) : Wk (EL.comp g part c) u ts v := by
  induction a with
  | nil u => exact .nil u
  | @cons u v w t ts e a ih =>
    have co : Co g u v := ⟨.one ⟨t, e⟩, a.rch.trans hb⟩
    obtain ⟨c', hc'⟩ := P.at (W.cl u v ⟨t, e⟩)
    have : c = c' := (P.co u v c c' hu hc').mpr co
    rw [← this] at hc'
    refine .cons ?_ (ih (hb.trans co.1) hc')
    rw [comp_adj hu]
    exact List.mem_filter.mpr ⟨e, by rw [hc']; simp⟩
end
/-- a closed walk at q whose greatest priority is t -/
def Cyc (g : Gph Int) (q : Int) (t : Int) : Prop := ∃ ts, Wk g q ts q ∧ (∃ x ∈ ts, x.2.1 = t) ∧ ∀ x ∈ ts, x.2.1 ≤ t
def Chn (g : Gph Int) (inner n : Nat) : Prop := n = 0 ∨ ∃ (q : Int) (ts : Nat → Int), ∀ i, i < n → Cyc g q (ts i) ∧ ts i % 2 = ((inner + i : Nat) : Int) % 2 ∧ (i + 1 < n → ts i < ts (i + 1))
def LenOk (g : Gph Int) (inner n : Nat) : Prop := Chn g inner n ∧ ∀ k, Chn g inner k → k ≤ n
structure IsPart (h : Gph Int) : Prop where
  wf : Wf h
  sc : ∀ u v, u ∈ keys h → v ∈ keys h → Rch h u v
  ed : hasE h = true
theorem hasE_iff {h : Gph Int} : hasE h = true ↔ ∃ u t v, (t, v) ∈ adj h u := by
  unfold hasE
  rw [List.any_eq_true]
  constructor
  · rintro ⟨u, _, hu⟩
    cases q : adj h u with
    | nil => rw [q] at hu; cases hu
    | cons e r => exact ⟨u, e.1, e.2, by rw [q]; exact List.mem_cons_self⟩
  · rintro ⟨u, t, v, he⟩
    refine ⟨u, Ed.key ⟨t, he⟩, ?_⟩
    cases q : adj h u with
    | nil => rw [q] at he; cases he
    | cons _ _ => rfl
theorem comp_key {N : Type} [DecidableEq N] {g : Gph N} {part : List (N × Int)} {c : Int} {u : N} : u ∈ keys (comp g part c) ↔ u ∈ keys g ∧ luk part u = some c := by
  rw [comp, keys_sub, List.mem_filter]
  simp
theorem parts_isPart {g : Gph Int} (W : Wf g) {gs : List (Gph Int)} (P : PartsOk g gs) : ∀ h ∈ gs, IsPart h ∧ ∀ u t v, (t, v) ∈ adj h u → (t, v) ∈ adj g u := by
  obtain ⟨part, P, rfl⟩ := P
  intro h hh
  obtain ⟨h1, h2⟩ := List.mem_filter.mp hh
  obtain ⟨i, _, rfl⟩ := List.mem_map.mp h1
  refine ⟨⟨comp_wf W, fun u v hu hv => ?_, h2⟩, fun u t v e => (comp_mem e).1⟩
  obtain ⟨u1, u2⟩ := comp_key.mp hu
  obtain ⟨v1, v2⟩ := comp_key.mp hv
  have co := (P.co u v _ _ u2 v2).mp rfl
  exact comp_rch P W co.1 co.2 u2
theorem parts_len {g : Gph Int} {gs : List (Gph Int)} (P : PartsOk g gs) : gs.length ≤ g.length := by
  obtain ⟨part, P, rfl⟩ := P
  have h1 := List.length_filter_le hasE ((List.range part.length).map (compN g part))
  rw [List.length_map, List.length_range] at h1
  have h2 := nd_len P.nd (m := keys g) fun x hx => (P.all x).mp hx
  simp [keys] at h2
  omega
theorem parts_cap {g : Gph Int} {gs : List (Gph Int)} (P : PartsOk g gs) : ∀ h ∈ gs, cap h ≤ cap g := by
  obtain ⟨part, P, rfl⟩ := P
  intro h hh
  obtain ⟨h1, _⟩ := List.mem_filter.mp hh
  obtain ⟨i, _, rfl⟩ := List.mem_map.mp h1
  exact sub_cap (fun n => decide (luk part n = some (i : Int))) (fun e => decide (luk part e.2 = some (i : Int))) g
theorem Cyc.mono {g g' : Gph Int} {q t : Int} (h : ∀ u t v, (t, v) ∈ adj g u → (t, v) ∈ adj g' u) (c : Cyc g q t) : Cyc g' q t := by
  obtain ⟨ts, h1, h2, h3⟩ := c
  exact ⟨ts, h1.mono h, h2, h3⟩
theorem Chn.mono {g g' : Gph Int} {i n : Nat} (h : ∀ u t v, (t, v) ∈ adj g u → (t, v) ∈ adj g' u) (c : Chn g i n) : Chn g' i n := by
  rcases c with c | ⟨q, ts, c⟩
  · exact .inl c
  · exact .inr ⟨q, ts, fun j hj => ⟨(c j hj).1.mono h, (c j hj).2⟩⟩
/-- a closed walk lies in one part -/
theorem Cyc.part {g : Gph Int} (W : Wf g) {gs : List (Gph Int)} (P : PartsOk g gs) {q : Int} (hq : ∃ t, Cyc g q t) : ∃ h ∈ gs, ∀ t, Cyc g q t → Cyc h q t := by
  obtain ⟨part, P, rfl⟩ := P
  have key : ∀ t, Cyc g q t → ∃ c : Int, luk part q = some c ∧ Cyc (comp g part c) q t ∧ hasE (comp g part c) = true := fun t ⟨ts, h1, h2, h3⟩ => by
    obtain ⟨x, hx, hxe⟩ := h2
    have hqk : q ∈ keys g := by
      cases h1 with
      | nil => cases hx
      | cons e _ => exact Ed.key ⟨_, e⟩
    obtain ⟨c, hc⟩ := P.at hqk
    have hw := h1.comp P W (.refl q) hc
    obtain ⟨a, b, he, _⟩ := hw.edge x hx
    exact ⟨c, hc, ⟨ts, hw, ⟨x, hx, hxe⟩, h3⟩, hasE_iff.mpr ⟨a, x, b, he⟩⟩
  obtain ⟨t, ht⟩ := hq
  obtain ⟨c, hc, _, hE⟩ := key t ht
  obtain ⟨c1, c2⟩ := P.rng q c hc
  have ec : ((c.toNat : Nat) : Int) = c := by omega
  refine ⟨compN g part c.toNat, List.mem_filter.mpr ⟨List.mem_map.mpr ⟨c.toNat, List.mem_range.mpr (by omega), rfl⟩, ?_⟩, fun t' ht' => ?_⟩
  · unfold compN; rw [ec]; exact hE
  · obtain ⟨c', hc', hcy, _⟩ := key t' ht'
    rw [hc] at hc'
    cases hc'
    unfold compN; rw [ec]; exact hcy
/-- the best of the parts is the graph's -/
theorem LenOk.parts {g : Gph Int} (W : Wf g) {gs : List (Gph Int)} (P : PartsOk g gs) {inner best : Nat} (hb : best = 0 ∨ ∃ h ∈ gs, LenOk h inner best) (hm : ∀ h ∈ gs, ∃ n, LenOk h inner n ∧ n ≤ best) : LenOk g inner best := by
  have ip := parts_isPart W P
  refine ⟨?_, fun k hk => ?_⟩
  · rcases hb with e | ⟨h, hh, hl⟩
    · exact .inl e
    · exact hl.1.mono (ip h hh).2
  · rcases hk with e | ⟨q, ts, c⟩
    · omega
    · by_cases k0 : k = 0
      · omega
      · obtain ⟨h, hh, hc⟩ := Cyc.part W P ⟨ts 0, (c 0 (by omega)).1⟩
        obtain ⟨n, hl, hn⟩ := hm h hh
        have : Chn h inner k := .inr ⟨q, ts, fun i hi => ⟨hc _ (c i hi).1, (c i hi).2⟩⟩
        exact Nat.le_trans (hl.2 k this) hn
theorem chn_mono {n : Nat} {ts : Nat → Int} (h : ∀ i, i + 1 < n → ts i < ts (i + 1)) : ∀ i j, i ≤ j → j < n → ts i ≤ ts j := by
  intro i j hij
  induction j with
  | zero => intro _; have : i = 0 := by omega
            subst this; exact Int.le_refl _
  | succ j ih =>
    intro hj
    by_cases e : i = j + 1
    · rw [e]; exact Int.le_refl _
    · have h1 := ih (by omega) (by omega)
      have h2 := h j hj
      omega
def rsd (best : Nat) (T : Int) (inner : Nat) : Nat := best + (if T % 2 = ((inner + best : Nat) : Int) % 2 then 1 else 0)
/-- one more where the greatest priority fits -/
theorem LenOk.raise {h : Gph Int} (I : IsPart h) {T : Int} (hT : (∃ u t v, (t, v) ∈ adj h u ∧ t.2.1 = T) ∧ ∀ u t v, (t, v) ∈ adj h u → t.2.1 ≤ T) {inner best : Nat} (hl : LenOk (bl h T) inner best) : LenOk h inner (rsd best T inner) := by
  obtain ⟨⟨u0, t0, v0, e0, et0⟩, hmax⟩ := hT
  have sub : ∀ u t v, (t, v) ∈ adj (bl h T) u → (t, v) ∈ adj h u := fun u t v e => (bl_mem.mp e).1
  have wmax : ∀ {q r : Int} {ts : List Tag}, Wk h q ts r → ∀ x ∈ ts, x.2.1 ≤ T := fun w x hx => by
    obtain ⟨a, b, e, _⟩ := w.edge x hx
    exact hmax a x b e
  have cT : ∀ q ∈ keys h, Cyc h q T := fun q hq => by
    obtain ⟨t1, w1⟩ := (I.sc q u0 hq (Ed.key ⟨t0, e0⟩)).wk
    obtain ⟨t2, w2⟩ := (I.sc v0 q (I.wf.cl u0 v0 ⟨t0, e0⟩) hq).wk
    exact ⟨t1 ++ t0 :: t2, w1.app (.cons e0 w2), ⟨t0, by simp, et0⟩, wmax (w1.app (.cons e0 w2))⟩
  have down : ∀ {q t : Int}, Cyc h q t → t < T → Cyc (bl h T) q t := fun ⟨ts, w, hx, hle⟩ lt => by
    refine ⟨ts, ?_, hx, hle⟩
    have : ∀ {a b : Int} {ts : List Tag}, Wk h a ts b → (∀ x ∈ ts, x.2.1 < T) → Wk (bl h T) a ts b := by
      intro a b ts w
      induction w with
      | nil u => intro _; exact .nil u
      | cons e _ ih => intro hl; exact .cons (bl_mem.mpr ⟨e, hl _ List.mem_cons_self⟩) (ih fun x hx => hl x (List.mem_cons_of_mem _ hx))
    exact this w fun x hx => Int.lt_of_le_of_lt (hle x hx) lt
  refine ⟨?_, fun k hk => ?_⟩
  · unfold rsd
    by_cases fit : T % 2 = ((inner + best : Nat) : Int) % 2
    · rw [if_pos fit]
      rcases hl.1 with e | ⟨q, ts, c⟩
      · subst e
        refine .inr ⟨u0, fun _ => T, fun i hi => ⟨cT u0 (Ed.key ⟨t0, e0⟩), ?_, fun h => by omega⟩⟩
        have : i = 0 := by omega
        rw [this]; exact fit
      · by_cases b0 : best = 0
        · subst b0
          refine .inr ⟨u0, fun _ => T, fun i hi => ⟨cT u0 (Ed.key ⟨t0, e0⟩), ?_, fun h => by omega⟩⟩
          have : i = 0 := by omega
          rw [this]; exact fit
        · obtain ⟨⟨ws, w, ⟨x, hx, _⟩, _⟩, _⟩ := c 0 (by omega)
          have hqk : q ∈ keys h := by
            cases w with
            | nil => cases hx
            | cons e _ => exact Ed.key ⟨_, sub _ _ _ e⟩
          refine .inr ⟨q, fun i => if i < best then ts i else T, fun i hi => ?_⟩
          dsimp only
          by_cases ib : i < best
          · obtain ⟨c1, c2, c3⟩ := c i ib
            refine ⟨by rw [if_pos ib]; exact c1.mono sub, by rw [if_pos ib]; exact c2, fun hi1 => ?_⟩
            rw [if_pos ib]
            by_cases ib1 : i + 1 < best
            · rw [if_pos ib1]; exact c3 ib1
            · rw [if_neg ib1]
              obtain ⟨ws2, w2, ⟨y, hy, ey⟩, _⟩ := c1
              obtain ⟨a, b, e, _⟩ := w2.edge y hy
              rw [← ey]
              exact (bl_mem.mp e).2
          · have : i = best := by omega
            subst this
            refine ⟨by rw [if_neg ib]; exact cT q hqk, by rw [if_neg ib]; exact fit, fun h => by omega⟩
    · rw [if_neg fit]
      exact hl.1.mono sub
  · unfold rsd
    rcases hk with e | ⟨q, ts, c⟩
    · omega
    · by_cases k0 : k = 0
      · omega
      · have mono := chn_mono (n := k) (ts := ts) fun i hi => (c i (by omega)).2.2 hi
        have htop : ts (k - 1) ≤ T := by
          obtain ⟨ws, w, ⟨x, hx, ex⟩, _⟩ := (c (k - 1) (by omega)).1
          rw [← ex]
          exact wmax w x hx
        by_cases lt : ts (k - 1) < T
        · have : Chn (bl h T) inner k := .inr ⟨q, ts, fun i hi => ⟨down (c i hi).1 (Int.lt_of_le_of_lt (mono i (k - 1) (by omega) (by omega)) lt), (c i hi).2⟩⟩
          have := hl.2 k this
          omega
        · have eT : ts (k - 1) = T := by omega
          have : Chn (bl h T) inner (k - 1) := by
            refine .inr ⟨q, ts, fun i hi => ⟨down (c i (by omega)).1 ?_, (c i (by omega)).2.1, fun hi1 => (c i (by omega)).2.2 (by omega)⟩⟩
            have h1 := (c i (by omega)).2.2 (by omega)
            have h2 := mono (i + 1) (k - 1) (by omega) (by omega)
            omega
          have h1 := hl.2 (k - 1) this
          by_cases z : k - 1 = best
          · have h2 := (c (k - 1) (by omega)).2.1
            rw [eT, z] at h2
            rw [if_pos h2]
            omega
          · omega
end EL

set_option Elab.async false
set_option linter.all false
set_option maxRecDepth 100000
set_option maxHeartbeats 2000000
namespace EL
open PySem PySem.Spec PyProof.Rows L2
/-! machine_edges -/
def madj (m : Mach) (s : Int) : List (Tag × Int) := m.ls.map fun c => ((sg c, (stp m s c).2, s), (stp m s c).1)
structure MEOk (m : Mach) (g : Gph Int) : Prop where
  nd : (keys g).Nodup
  ks : ∀ s, s ∈ keys g ↔ MR m s
  ad : ∀ s ∈ keys g, adj g s = madj m s
def spME (K : PySem.W.Frag) : Sp := fun vs H Q _ => ∃ (F : Hp) (m : Mach) (v : V), vs = [v] ∧ Same F H ∧ pM K m F v ∧ MOk m ∧ Ret F H (isEx (fun g : Gph Int => pG g) (MEOk m)) Q
theorem sc_machine_edges : FnScope ["machine", "edges", "state", "letter", "target", "priority"] ["machine"] (defScope sMachineEdges) := ⟨rfl, rfl, rfl, by decide +kernel, rfl, by decide +kernel, by decide +kernel⟩
section
variable {P : Program} {w : World} {K : PySem.W.Frag} {mg : Str → Option Value} {base : Heap}
theorem ok_machine_edges (E : Tops K mg) : Cal P w K mg base 2 "machine_edges" ["machine"] (spME K) := by
  have c_mreachable : Cam P w K mg base 1 "reachable" ["self"] (spMRe K) := ok_mreachable E
  have c_mletters : Cam P w K mg base 1 "letters" ["self"] (spMLet K) := ok_mletters E
  have c_mstep : Cam P w K mg base 1 "step" ["self", "state", "letter"] (spMStep K) := ok_mstep E
  refine Cal.of E.f_MachineEdges E.g_machine_edges sc_machine_edges (fun _ _ _ _ _ _ us hl => match us, hl with | [_], _ => rfl) (fun vs H Q Ex h => ?_) (fun cdv A outer s H vs Q Ex hr h => ?_)
  · obtain ⟨F, m, v, rfl, _⟩ := h
    rfl
  · obtain ⟨F, m, v, rfl, s0, hm, ok, k⟩ := h
    refine ⟨_, (pss_cons (ps_set (i := 1) sc_machine_edges.nd rfl (.inl rfl) pe_dnewK)
      (pss_cons (ps_for PassesOwn.never rfl (pi_listK (K := K) rfl (pe_cam0K (K := K) rfl c_mreachable (hr.mono (by decide)) (pv 0))) (pg_name (i := 2) sc_machine_edges.nd rfl (.inl rfl))
        (pss_cons (ps_dput (hu_of hr) (pv 1) (pv 2) (pe_lst pa_nil) rfl)
        (pss_one (ps_for PassesOwn.never rfl (pi_str (pe_cam0K (K := K) rfl c_mletters (hr.mono (by decide)) (pv 0))) (pg_name (i := 3) sc_machine_edges.nd rfl (.inl rfl))
          (pss_cons (ps_asg (pe_camK (K := K) rfl c_mstep (hr.mono (by decide)) (pv 0) (pa_cons (pv 2) (pa_cons (pv 3) pa_nil))) (pg_tupK (K := K) (n := 2) rfl rfl (pgs_cons (pg_name (i := 4) sc_machine_edges.nd rfl (.inl rfl)) (pgs_cons (pg_name (i := 5) sc_machine_edges.nd rfl (.inl rfl)) pgs_nil))))
          (pss_one (ps_expr (pe_bmK (K := K) rfl PySem.F.plainAttrs_list PySem.F.slot_list_append PySem.F.type_list_append mt_append (pe_dget (hu_of hr) (pv 1) (pv 2) (fun _ _ => rfl)) (pa_cons (pe_tup (pa_cons (pe_tup (pa_cons (pv 3) (pa_cons (pv 5) (pa_cons (pv 2) pa_nil)))) (pa_cons (pv 4) pa_nil))) pa_nil)))))))))
      (pss_one (ps_ret (pv 1))))), ?_⟩
    have W0 := Wr.start s0
    have t2 := ok.t2
    have hll : m.ls.length ≤ 3 := by show m.al.cps.toList.length ≤ 3; rw [Array.length_toList]; exact (alph_size ok.al).2
    refine w_seq (w_newD (N := Int) W0 fun pD H1 W1 => ?_)
    refine w_seq (w_forEx (K := K) (Pa := isIs) (C := RchOk m) W1 (ev_cam W1.same (ev_var rfl inferInstance hm) ea_nil fun F2 H2 x vs Q2 g2 s2 hx hvs r2 => ?_) fun ns vn F2 H2 hns g2 W2 hvn => ?_)
    · cases hvs
      exact ⟨F2, m, x, rfl, s2, hx, ok, r2⟩
    have hnl : ns.length ≤ m.tab.length := int_range hns.1 fun s hs => ((hns.2 s).mp hs).rng ok
    refine w_forLm (f := fun n : Int => isV (.int n)) (xs := ns) W2 (ev_lit inferInstance hvn) (fun _ => inferInstance) fun F3 H3 g3 W3 => ?_
    refine ⟨fun i σ' F' H' => ∃ (kvs : List (Int × V)) (x2 x3 x4 x5 : Option V), σ' = [some v, some (.ref pD), x2, x3, x4, x5] ∧ Wr F H [(pD, Nd.dic kvs)] F' H' none ∧ kvs.map (·.1) = ns.take i ∧ PrL F' ((ns.take i).map fun s => pEs (madj m s)) (kvs.map (·.2)),
      ⟨[], _, _, _, _, rfl, W3, by simp, by simp; exact .nil⟩, ?_, ?_⟩
    · rintro i st vs F' H' F4 hi hvs sF ⟨kvs, x2, x3, x4, x5, rfl, W4, hk, hkv⟩
      obtain rfl : vs = .int st := hvs
      obtain ⟨l0, l1⟩ := ((hns.2 st).mp (List.mem_of_getElem? hi)).rng ok
      have hnot : st ∉ kvs.map (·.1) := by
        rw [hk]
        intro z
        obtain ⟨j, hj⟩ := List.getElem?_of_mem z
        rw [List.getElem?_take] at hj
        split at hj
        · rename_i lt
          have := nd_ix hns.1 hj hi
          omega
        · cases hj
      have hnd : (kvs.map (·.1)).Nodup := by rw [hk]; exact (List.take_sublist _ _).nodup hns.1
      have hkl : kvs.length ≤ 3 := by
        have := congrArg List.length hk
        rw [List.length_map, List.length_take] at this
        omega
      refine w_seq (w_dputL (N := Int) W4 (j := 0) (n := st) rfl hnd (by omega) (ev_varV rfl) (ev_varV rfl) fun pE F6 H6 s6 W6 => ?_)
      have eput : putA kvs st (V.ref pE) = kvs ++ [(st, V.ref pE)] := put_new _ (luk_none.mpr hnot)
      have W6 : Wr F H [(pE, .lst []), (pD, Nd.dic (kvs ++ [(st, V.ref pE)]))] F6 H6 none := by rw [← eput]; exact W6
      have hlk : luk (kvs ++ [(st, V.ref pE)]) st = some (V.ref pE) := by rw [← eput, luk_put, if_pos rfl]
      have s06 : Same F F6 := ((g2.trans g3).fx.trans sF).trans s6
      have hm6 := (inferInstance : Mn (pM K m)).mn s06 hm
      have hkv6 := (mnl_map (fun _ => inferInstance) _ : MnL ((ns.take i).map fun s => pEs (madj m s))).mn s6 hkv
      dsimp only
      refine w_forI (xs := m.ls) (Y := fun _ c => isV (.str (sg c))) W6 (ei_str (ev_camS (ev_var rfl inferInstance hm6) ea_nil fun F1 H1 x vs Q1 g1 s1 hx hvs r1 => by
        cases hvs
        exact ⟨F1, m, x, rfl, s1, hx, r1⟩)) fun F7 H7 g7 W7 => ?_
      refine ⟨fun j σ' F' H' => ∃ (ve : List V) (x3 x4 x5 : Option V), σ' = [some v, some (.ref pD), some (.int st), x3, x4, x5] ∧ Wr F H [(pE, .lst ve), (pD, Nd.dic (kvs ++ [(st, V.ref pE)]))] F' H' none ∧ PrL F' (((madj m st).take j).map (EL.pE (N := Int))) ve, ⟨[], _, _, _, rfl, W7, by simp; exact .nil⟩, ?_, ?_⟩
      · rintro j c vc σ' F' F8 H' H8 hj sF8 ⟨ve, x3, x4, x5, rfl, W8, hve⟩ g8 hvc
        obtain rfl : vc = .str (sg c) := hvc
        have W9 := W8.gro g8
        have s9 : Same F6 F8 := (g7.fx.trans sF8).trans g8.fx
        have hc := List.mem_of_getElem? hj
        have hm9 := (inferInstance : Mn (pM K m)).mn s9 hm6
        have hve9 := (mnl_map (fun _ => inferInstance) _ : MnL (((madj m st).take j).map (EL.pE (N := Int)))).mn g8.fx hve
        have hvel : ve.length ≤ 3 := by
          have := hve.length
          rw [List.length_map, List.length_take] at this
          have h2 : (madj m st).length = m.ls.length := by unfold madj; rw [List.length_map]
          omega
        refine w_seq (w_asg W9 (P := isTup [isV (.int (stp m st c).1), isV (.int (stp m st c).2)]) (ev_cam W9.same (ev_var rfl inferInstance hm9) (ea_cons (ev_varV rfl) inferInstance (ea_cons (ev_varV rfl) inferInstance ea_nil)) fun F1 H1 x vs Q1 g1 s1 hx hvs r1 => ?_) fun vt F10 H10 g10 W10 ht => ?_)
        · cases hvs with
          | cons h1 hvs =>
            cases hvs with
            | cons h2 hvs =>
              cases hvs
              obtain rfl : _ = V.int st := h1
              obtain rfl : _ = V.str (sg c) := h2
              exact ⟨F1, m, x, st, c, rfl, s1, hx, ok, l0, l1, hc, r1⟩
        refine tg_tup2 W10.sub ht fun va vb ha hb => ?_
        obtain rfl : va = _ := ha
        obtain rfl : vb = _ := hb
        dsimp only
        refine w_app W10 (j := 0) (P := EL.pE (N := Int) ((sg c, (stp m st c).2, st), (stp m st c).1)) rfl (ev_dgetO (N := Int) (W10.at (j := 1) rfl) (ev_varV rfl) (ev_varV rfl) hlk)
          (ev_tup (Ps := [pTag (sg c, (stp m st c).2, st), Nd.nd (stp m st c).1]) (ea_cons (ev_tup (Ps := [isV (.str (sg c)), isV (.int (stp m st c).2), isV (.int st)]) (ea_cons (ev_varV rfl) inferInstance (ea_cons (ev_varV rfl) inferInstance (ea_cons (ev_varV rfl) inferInstance ea_nil))) inferInstance) inferInstance (ea_cons (ev_varV rfl) inferInstance ea_nil)) inferInstance) (by omega) fun va F11 H11 g11 W11 ha => ?_
        refine ⟨F11, ((sF8.trans g8.fx).trans g10.fx).trans g11.fx, W11.sub, ve ++ [va], _, _, _, rfl, W11, ?_⟩
        have hji : (madj m st)[j]? = some ((sg c, (stp m st c).2, st), (stp m st c).1) := by unfold madj; rw [List.getElem?_map, hj]; rfl
        rw [List.take_succ, hji, List.map_append]
        exact ((mnl_map (fun _ => inferInstance) _ : MnL (((madj m st).take j).map (EL.pE (N := Int)))).mn (g10.fx.trans g11.fx) hve9).append (.one ha)
      · rintro σ' F' H' sF8 ⟨ve, x3, x4, x5, rfl, W8, hve⟩
        have hjl : (madj m st).length = m.ls.length := by unfold madj; rw [List.length_map]
        rw [List.take_of_length_le (by omega)] at hve
        obtain ⟨W9, s9⟩ := W8.frz (j := 0) rfl (fun od u z => by cases z)
        have hE : pEs (madj m st) (upd F' pE (.lst ve)) (.ref pE) := ⟨pE, ve, rfl, upd_same, (mnl_map (fun _ => inferInstance) _ : MnL ((madj m st).map (EL.pE (N := Int)))).mn s9 hve⟩
        refine ⟨_, ((sF.trans s6).trans (g7.fx.trans sF8)).trans s9, W9.sub, kvs ++ [(st, V.ref pE)], _, _, _, _, rfl, W9, ?_, ?_⟩
        · rw [List.map_append, hk, List.take_succ, hi]; rfl
        · rw [List.take_succ, hi, List.map_append, List.map_append]
          exact ((mnl_map (fun _ => inferInstance) _ : MnL ((ns.take i).map fun s => pEs (madj m s))).mn ((g7.fx.trans sF8).trans s9) hkv6).append (.one hE)
    · rintro σ' F' H' sF ⟨kvs, x2, x3, x4, x5, rfl, W4, hk, hkv⟩
      rw [List.take_length] at hk hkv
      obtain ⟨W5, s5⟩ := W4.frz (j := 0) rfl (fun od u z => by
        have := ndInt.dct kvs
        rw [z] at this
        cases this)
      dsimp only
      refine w_ret W5 (ev_varV rfl) fun v6 F6 H6 g6 W6 e => ?_
      obtain rfl : v6 = _ := e
      let g : Gph Int := ns.map fun p => (p, madj m p)
      have hkg : keys g = ns := by show (ns.map _).map _ = ns; rw [List.map_map]; exact List.map_id _
      refine k _ F6 H6 W6.gr ⟨g, ⟨by rw [hkg]; exact hns.1, fun p => by rw [hkg]; exact hns.2 p, fun p hp => ?_⟩, ?_⟩
      · rw [hkg] at hp
        have : luk g p = some (madj m p) := luk_of_mem (by show (keys g).Nodup; rw [hkg]; exact hns.1) (List.mem_map.mpr ⟨p, hp, rfl⟩)
        unfold adj
        rw [this]
        rfl
      · refine (inferInstance : Mn (pG g)).mn g6.fx ⟨pD, kvs, rfl, upd_same, ?_, ?_, ?_⟩
        · rw [map_fst_pG, hkg]; exact hk
        · rw [map_fst_pG, hkg]; exact hns.1
        · rw [map_snd_pG]
          show PrL _ ((ns.map _).map _) _
          rw [List.map_map]
          exact (mnl_map (fun _ => inferInstance) _ : MnL (ns.map fun s => pEs (madj m s))).mn s5 hkv
end
/-! raised_length -/
def inn (ev : Bool) : Nat := if ev then 0 else 1
def spRL : Sp := fun vs H Q _ => ∃ (F : Hp) (best : Nat) (T : Int) (ev : Bool), vs = [.int best, .int T, .bl ev] ∧ Same F H ∧ Ret F H (isV (.int (rsd best T (inn ev) : Nat))) Q
theorem sc_raised_length : FnScope ["length", "priority", "even", "inner", "last"] ["length", "priority", "even"] (defScope sRaisedLength) := ⟨rfl, rfl, rfl, by decide +kernel, rfl, by decide +kernel, by decide +kernel⟩
section
variable {P : Program} {w : World} {K : PySem.W.Frag} {mg : Str → Option Value} {base : Heap}
theorem ok_raised_length (E : Tops K mg) : Cal P w K mg base 1 "raised_length" ["length", "priority", "even"] spRL := by
  refine Cal.of E.f_RaisedLength E.g_raised_length sc_raised_length (fun _ _ _ _ _ _ us hl => match us, hl with | [_, _, _], _ => rfl) (fun vs H Q Ex h => ?_) (fun cdv A outer s H vs Q Ex hr h => ?_)
  · obtain ⟨F, best, T, ev, rfl, _⟩ := h
    rfl
  · obtain ⟨F, best, T, ev, rfl, s0, k⟩ := h
    refine ⟨_, (pss_cons (ps_set (i := 3) sc_raised_length.nd rfl (.inl rfl) (pe_ifExp (pt_val (pv 2)) pe_int pe_int))
      (pss_cons (ps_if (pt_cmpR op_eq (pv 0) pe_int (nomark _))
        (pss_one (ps_ret (pe_callTy call_int1 (by rfl) E.n_int bt_int (pa_cons (pe_cmpR op_eq (pe_op op_mod (pv 1) pe_int) (pv 3) (nomark _)) pa_nil))))
        pss_nil)
      (pss_cons (ps_set (i := 4) sc_raised_length.nd rfl (.inl rfl) (pe_op op_mod (pe_op op_sub (pe_op op_add (pv 3) (pv 0)) pe_int) pe_int))
      (pss_one (ps_ret (pe_op op_add (pv 0) (pe_callTy call_int1 (by rfl) E.n_int bt_int (pa_cons (pe_cmpR op_ne (pe_op op_mod (pv 1) pe_int) (pv 4) (nomark _)) pa_nil)))))))), ?_⟩
    have W0 := Wr.start s0
    refine w_seq (w_set W0 (P := isV (.int ((inn ev : Nat) : Int))) (ev_if (b := ev) (et_B (ev_varV rfl)) (fun h => ev_c.is (by rw [h]; rfl)) fun h => ev_c.is (by rw [h]; rfl)) fun v1 F1 H1 g1 W1 e1 => ?_)
    obtain rfl : v1 = _ := e1
    have emod : ∀ {σ : L2.St} {F1 H1 : Hp} {te : TE} {i : Int}, EvP te σ F1 H1 (isV (.int i)) → EvP (tOp (rI (fun _ j => 0 < j) fun i j => .int (i % j)) te (tC (.int 2))) σ F1 H1 (isV (.int (i % 2))) := fun h => ev_op h ev_c inferInstance (op_I (by decide : (0 : Int) < 2))
    refine w_seq (w_if W1 (b := decide (V.int (best : Int) = V.int 0)) (et_test (ev_op (ev_varV rfl) ev_c inferInstance (op_Eq rfl))) (fun hb F2 H2 g2 W2 => ?_) fun hb F2 H2 g2 W2 => ?_)
    · have b0 : best = 0 := by have := of_decide_eq_true hb; injection this with this; omega
      subst b0
      refine w_ret W2 ((ev_cb (ea_cons (ev_op (emod (ev_varV rfl)) (ev_varV rfl) inferInstance (op_Eq rfl)) inferInstance ea_nil) ca_int1).is ?_) fun v3 F3 H3 g3 W3 e3 => k v3 F3 H3 W3.gr e3
      unfold rsd
      congr 1
      have hin : ((inn ev + 0 : Nat) : Int) % 2 = ((inn ev : Nat) : Int) := by cases ev <;> rfl
      rw [hin]
      by_cases z : T % 2 = ((inn ev : Nat) : Int)
      · rw [if_pos z, decide_eq_true (by rw [z])]; rfl
      · rw [if_neg z, decide_eq_false (fun q => z (by injection q))]; rfl
    · have b0 : best ≠ 0 := by have := of_decide_eq_false hb; intro z; apply this; rw [z]; rfl
      dsimp only [tNext]
      refine w_seq (w_set W2 (emod ((ev_op ((ev_op (ev_varV rfl) (ev_varV rfl) inferInstance op_I0).is (w := .int (((inn ev : Nat) : Int) + (best : Int))) rfl) ev_c inferInstance op_I0).is (w := .int (((inn ev : Nat) : Int) + (best : Int) - 1)) rfl)) fun v3 F3 H3 g3 W3 e3 => ?_)
      obtain rfl : v3 = _ := e3
      refine w_ret W3 ((ev_op (ev_varV rfl) (ev_cb (ea_cons (ev_op (emod (ev_varV rfl)) (ev_varV rfl) inferInstance (op_Ne rfl)) inferInstance ea_nil) ca_int1) inferInstance op_I0).is ?_) fun v4 F4 H4 g4 W4 e4 => k v4 F4 H4 W4.gr e4
      unfold rsd
      congr 1
      by_cases z : T % 2 = ((inn ev + best : Nat) : Int) % 2
      · rw [if_pos z, decide_eq_false (fun q => by injection q; omega)]
        simp
      · rw [if_neg z, decide_eq_true (by congr 1; omega)]
        simp
end
end EL

set_option Elab.async false
set_option linter.all false
set_option maxRecDepth 100000
set_option maxHeartbeats 2000000
namespace EL
open PySem PySem.Spec PyProof.Rows L2
def pLn (n : Nat) : Pr := fun F v => ∃ a vs, v = .ref a ∧ F a = some (.lst vs) ∧ vs.length ≤ n
instance {n : Nat} : Mn (pLn n) := ⟨fun s ⟨a, vs, e, h, l⟩ => ⟨a, vs, e, s _ _ h, l⟩⟩
theorem pLn.le {F : Hp} {v : V} {n m : Nat} (h : pLn n F v) (l : n ≤ m) : pLn m F v := by
  obtain ⟨a, vs, e, hF, hl⟩ := h
  exact ⟨a, vs, e, hF, Nat.le_trans hl l⟩
theorem op_catLn {F H : Hp} {n k : Nat} (hz : n + k ≤ 100000) : OpP rCat (pLn n) (pLn k) (pLn (n + k)) F H := fun F1 H1 x y g s ⟨a, vs, e, hF, hl⟩ ⟨b, ws, e', hF', hl'⟩ Q q =>
  ⟨a, b, vs, ws, e, e', s.lst hF, s.lst hF', Nat.le_trans (by omega : vs.length + ws.length ≤ 100000) (by decide), fun p np => by
    have f := s.free np
    exact q (.ref p) _ _ (Gr.newF np f) ⟨p, vs ++ ws, rfl, upd_same, by rw [List.length_append]; omega⟩⟩
structure BestI (gs : List (Gph Int)) (inner best : Nat) : Prop where
  b : best = 0 ∨ ∃ h ∈ gs, LenOk h inner best
  m : ∀ h ∈ gs, ∃ n, LenOk h inner n ∧ n ≤ best
theorem BestI.start {inner : Nat} : BestI [] inner 0 := ⟨.inl rfl, fun h hh => by cases hh⟩
theorem BestI.up {gs : List (Gph Int)} {inner best n : Nat} {h : Gph Int} (B : BestI gs inner best) (l : LenOk h inner n) (lt : best < n) : BestI (gs ++ [h]) inner n :=
  ⟨.inr ⟨h, by simp, l⟩, fun k hk => by
    rcases List.mem_append.mp hk with z | z
    · obtain ⟨j, h1, h2⟩ := B.m k z
      exact ⟨j, h1, by omega⟩
    · rw [List.mem_singleton.mp z]; exact ⟨n, l, Nat.le_refl _⟩⟩
theorem BestI.stay {gs : List (Gph Int)} {inner best n : Nat} {h : Gph Int} (B : BestI gs inner best) (l : LenOk h inner n) (le : ¬ best < n) : BestI (gs ++ [h]) inner best :=
  ⟨B.b.imp id fun ⟨k, hk, e⟩ => ⟨k, List.mem_append_left _ hk, e⟩, fun k hk => by
    rcases List.mem_append.mp hk with z | z
    · exact B.m k z
    · rw [List.mem_singleton.mp z]; exact ⟨n, l, by omega⟩⟩
def PrB (g : Gph Int) (d : Nat) : Prop := ∀ u t v, (t, v) ∈ adj g u → 0 ≤ t.2.1 ∧ t.2.1 < d
def spLI (d : Nat) : Sp := fun vs H Q _ => ∃ (F : Hp) (g : Gph Int) (v : V) (ev : Bool), vs = [v, .bl ev] ∧ Same F H ∧ pG g F v ∧ IsPart g ∧ cap g ≤ 10000 ∧ PrB g d ∧ d ≤ 1000 ∧ Ret F H (isEx (fun n : Nat => isTup [isV (.int (n : Nat)), pLn d]) (LenOk g (inn ev))) Q
theorem isPart_gr {g : Gph Int} {T : Int} {d : Nat} (I : IsPart g) (p : PrB g d) (G : GrOk g T) : ((∃ u t v, (t, v) ∈ adj g u ∧ t.2.1 = T) ∧ ∀ u t v, (t, v) ∈ adj g u → t.2.1 ≤ T) ∧ 0 ≤ T ∧ T < d := by
  have all : ∀ u t v, (t, v) ∈ adj g u → Inn g t := fun u t v e => ⟨u, v, e, I.sc u v (Ed.key ⟨t, e⟩) (I.wf.cl u v ⟨t, e⟩), I.sc v u (I.wf.cl u v ⟨t, e⟩) (Ed.key ⟨t, e⟩)⟩
  obtain ⟨u, t, v, e⟩ := hasE_iff.mp I.ed
  have h0 := (p u t v e).1
  have h1 := G.2.2 t (all u t v e)
  rcases G.1 with z | ⟨t', ⟨u', v', e', _⟩, z⟩
  · omega
  · have := p u' t' v' e'
    exact ⟨⟨⟨u', t', v', e', z⟩, fun u t v e => G.2.2 t (all u t v e)⟩, by omega, by omega⟩
theorem sc_longest_in : FnScope ["edges", "even", "top", "best", "line", "inside", "length", "parts"] ["edges", "even"] (defScope sLongestIn) := ⟨rfl, rfl, rfl, by decide +kernel, rfl, by decide +kernel, by decide +kernel⟩
section
variable {P : Program} {w : World} {K : PySem.W.Frag} {mg : Str → Option Value} {base : Heap}
theorem ok_longest_in (E : Tops K mg) : ∀ d : Nat, Cal P w K mg base (4 + d) "longest_in" ["edges", "even"] (spLI d)
  | 0 => by
    refine Cal.of (k := 3) E.f_LongestIn E.g_longest_in sc_longest_in (fun _ _ _ _ _ _ us hl => match us, hl with | [_, _], _ => rfl) (fun vs H Q Ex h => ?_) (fun cdv A outer s H vs Q Ex hr h => ?_)
    · obtain ⟨F, g, v, ev, rfl, _⟩ := h
      rfl
    · obtain ⟨F, g, v, ev, rfl, s0, hg, I, sm, hp, hd, k⟩ := h
      obtain ⟨u, t, v', e⟩ := hasE_iff.mp I.ed
      have := hp u t v' e
      omega
  | d + 1 => by
    have c_longest_in : Cal P w K mg base (4 + d) "longest_in" ["edges", "even"] (spLI d) := ok_longest_in E d
    have c_greatest_in : Cal P w K mg base (4 + d) "greatest_in" ["edges"] spGI := (ok_greatest_in E).mono (by omega)
    have c_parts_of : Cal P w K mg base (4 + d) "parts_of" ["edges"] spPO := (ok_parts_of E).mono (by omega)
    have c_below : Cal P w K mg base (4 + d) "below" ["edges", "priority"] spBl := (ok_below E).mono (by omega)
    have c_raised_length : Cal P w K mg base (4 + d) "raised_length" ["length", "priority", "even"] spRL := (ok_raised_length E).mono (by omega)
    refine Cal.of (k := 4 + d) E.f_LongestIn E.g_longest_in sc_longest_in (fun _ _ _ _ _ _ us hl => match us, hl with | [_, _], _ => rfl) (fun vs H Q Ex h => ?_) (fun cdv A outer s H vs Q Ex hr h => ?_)
    · obtain ⟨F, g, v, ev, rfl, _⟩ := h
      rfl
    · obtain ⟨F, g, v, ev, rfl, s0, hg, I, sm, hpr, hd, k⟩ := h
      refine ⟨_, (pss_cons (ps_set (i := 2) sc_longest_in.nd rfl (.inl rfl) (pe_cal c_greatest_in (hr.mono (by omega)) rfl (pa_cons (pv 0) pa_nil)))
      (pss_cons (ps_par (i := 3) (j := 4) (by rfl) sc_longest_in.nd rfl rfl (by decide) rfl rfl (pa_cons pe_int (pa_cons (pe_lst pa_nil) pa_nil)) (by rfl))
      (pss_cons (ps_for PassesOwn.never rfl (pi_listK (K := K) rfl (pe_cal c_parts_of (hr.mono (by omega)) rfl (pa_cons (pe_cal c_below (hr.mono (by omega)) rfl (pa_cons (pv 0) (pa_cons (pv 2) pa_nil))) pa_nil))) (pg_name (i := 5) sc_longest_in.nd rfl (.inl rfl))
        (pss_cons (ps_asg (pe_cal c_longest_in (hr.mono (by omega)) rfl (pa_cons (pv 5) (pa_cons (pv 1) pa_nil))) (pg_tupK (K := K) (n := 2) rfl rfl (pgs_cons (pg_name (i := 6) sc_longest_in.nd rfl (.inl rfl)) (pgs_cons (pg_name (i := 7) sc_longest_in.nd rfl (.inl rfl)) pgs_nil))))
        (pss_one (ps_if (pt_cmpR op_gt (pv 6) (pv 3) (nomark _))
          (pss_one (ps_par (i := 3) (j := 4) (by rfl) sc_longest_in.nd rfl rfl (by decide) rfl rfl (pa_cons (pv 6) (pa_cons (pv 7) pa_nil)) (by rfl)))
          pss_nil))))
      (pss_cons (ps_set (i := 6) sc_longest_in.nd rfl (.inl rfl) (pe_cal c_raised_length (hr.mono (by omega)) rfl (pa_cons (pv 3) (pa_cons (pv 2) (pa_cons (pv 1) pa_nil)))))
      (pss_one (ps_ret (pe_ifExp (pt_cmpR op_gt (pv 6) (pv 3) (nomark _)) (pe_tup (pa_cons (pv 6) (pa_cons (pe_op L2.op_cat (pe_lst (pa_cons (pe_tup (pa_cons (pv 0) (pa_cons (pv 2) pa_nil))) pa_nil)) (pv 4)) pa_nil))) (pe_tup (pa_cons (pv 3) (pa_cons (pv 4) pa_nil)))))))))), ?_⟩
      have W0 := Wr.start s0
      refine w_seq (w_set W0 (P := isEx (fun M : Int => isV (.int M)) (GrOk g)) (ev_call s0 (ea_cons (P := pG g) (ev_var rfl inferInstance hg) inferInstance ea_nil) fun F1 H1 vs Q1 g1 s1 hvs r1 => ?_) fun vT F1 H1 g1 W1 ⟨T, hG, eT⟩ => ?_)
      · cases hvs with
        | cons h1 hvs =>
          cases hvs
          exact ⟨F1, g, _, rfl, s1, h1, I.wf, sm, r1⟩
      obtain rfl : vT = .int T := eT
      obtain ⟨hT, T0, Td⟩ := isPart_gr I hpr hG
      refine w_seq (w_par W1 (P1 := isV (.int 0)) (P2 := pLn d) (ea_cons ev_c inferInstance (ea_cons (EvP.imp (ev_lst (Ps := []) ea_nil inferInstance) fun F v ⟨a, vs, e, h, hv⟩ => ⟨a, vs, e, h, by cases hv; exact Nat.zero_le _⟩) inferInstance ea_nil)) fun v3 v4 F2 H2 s2 W2 e3 h4 => ?_)
      obtain rfl : v3 = .int 0 := e3
      have hg2 := (inferInstance : Mn (pG g)).mn (g1.fx.trans s2) hg
      have Wb := bl_wf (t := T) I.wf
      have capb : cap (bl g T) ≤ 10000 := Nat.le_trans (sub_cap _ _ g) sm
      refine w_seq (w_forEx (K := K) (Pa := fun gs : List (Gph Int) => isLst (gs.map pG)) (C := PartsOk (bl g T)) W2 (ev_call W2.same (ea_cons (P := pG (bl g T)) (ev_call W2.same (ea_cons (P := pG g) (ev_var rfl inferInstance hg2) inferInstance (ea_cons (ev_varV rfl) inferInstance ea_nil)) fun F3 H3 vs Q3 g3 s3 hvs r3 => ?_) inferInstance ea_nil) fun F3 H3 vs Q3 g3 s3 hvs r3 => ?_) fun gs vg F3 H3 hgs g3 W3 hvg => ?_)
      · cases hvs with
        | cons h1 hvs =>
          cases hvs with
          | cons h2 hvs =>
            cases hvs
            obtain rfl : _ = V.int T := h2
            exact ⟨F3, g, _, T, rfl, s3, h1, I.wf, sm, r3⟩
      · cases hvs with
        | cons h1 hvs =>
          cases hvs
          exact ⟨F3, bl g T, _, rfl, s3, h1, Wb, capb, r3⟩
      have hip := parts_isPart Wb hgs
      refine w_forLm (f := pG) (xs := gs) W3 (ev_lit inferInstance hvg) (fun _ => inferInstance) fun F4 H4 g4 W4 => ?_
      refine ⟨fun i σ' F' H' => ∃ (best : Nat) (vl : V) (x5 x6 x7 : Option V), σ' = [some v, some (.bl ev), some (.int T), some (.int (best : Int)), some vl, x5, x6, x7] ∧ Wr F H [] F' H' none ∧ pLn d F' vl ∧ BestI (gs.take i) (inn ev) best,
        ⟨0, v4, _, _, _, rfl, W4, (inferInstance : Mn (pLn d)).mn (g3.trans g4).fx h4, by rw [List.take_zero]; exact BestI.start⟩, ?_, ?_⟩
      · rintro i h vh σ' F' H' hi hvh sF ⟨best, vl, x5, x6, x7, rfl, W5, hl, B⟩
        obtain ⟨Ih, hsub⟩ := hip h (List.mem_of_getElem? hi)
        have hvh : pG h F' vh := hvh
        have htk : gs.take (i + 1) = gs.take i ++ [h] := by rw [List.take_succ, hi]; rfl
        refine w_seq (w_asg W5 (P := isEx (fun n : Nat => isTup [isV (.int (n : Nat)), pLn d]) (LenOk h (inn ev))) (ev_call W5.same (ea_cons (P := pG h) (ev_var rfl inferInstance hvh) inferInstance (ea_cons (ev_varV rfl) inferInstance ea_nil)) fun F6 H6 vs Q6 g6 s6 hvs r6 => ?_) fun vr F6 H6 g6 W6 ⟨n, hn, hvr⟩ => ?_)
        · cases hvs with
          | cons h1 hvs =>
            cases hvs with
            | cons h2 hvs =>
              cases hvs
              obtain rfl : _ = V.bl ev := h2
              refine ⟨F6, h, _, ev, rfl, s6, h1, Ih, Nat.le_trans (parts_cap hgs h (List.mem_of_getElem? hi)) capb, fun u t v e => ?_, by omega, r6⟩
              obtain ⟨e1, e2⟩ := bl_mem.mp (hsub u t v e)
              have := hpr u t v e1
              omega
        · refine tg_tup2 W6.sub hvr fun va vb ha hb => ?_
          obtain rfl : va = .int (n : Int) := ha
          have hb : pLn d F6 vb := hb
          have hl6 := (inferInstance : Mn (pLn d)).mn g6.fx hl
          dsimp only
          refine w_if W6 (b := decide ((best : Int) < (n : Int))) (et_test (ev_op (ev_varV rfl) (ev_varV rfl) inferInstance op_I0)) (fun hlt F7 H7 g7 W7 => ?_) fun hlt F7 H7 g7 W7 => ?_
          · refine w_par W7 (P1 := isV (.int (n : Int))) (P2 := pLn d) (ea_cons (ev_varV rfl) inferInstance (ea_cons (ev_var rfl inferInstance ((inferInstance : Mn (pLn d)).mn g7.fx hb)) inferInstance ea_nil)) fun v8 v9 F8 H8 s8 W8 e8 h9 => ?_
            obtain rfl : v8 = .int (n : Int) := e8
            refine ⟨F8, ((sF.trans g6.fx).trans g7.fx).trans s8, W8.sub, n, v9, _, _, _, rfl, W8, h9, ?_⟩
            rw [htk]
            exact B.up hn (by have := of_decide_eq_true hlt; omega)
          · refine ⟨F7, (sF.trans g6.fx).trans g7.fx, W7.sub, best, vl, _, _, _, rfl, W7, (inferInstance : Mn (pLn d)).mn g7.fx hl6, ?_⟩
            rw [htk]
            exact B.stay hn (by have := of_decide_eq_false hlt; omega)
      · rintro σ' F' H' sF ⟨best, vl, x5, x6, x7, rfl, W5, hl, B⟩
        rw [List.take_length] at B
        have hlen := LenOk.raise I hT (LenOk.parts Wb hgs B.b B.m)
        dsimp only
        refine w_seq (w_set W5 (P := isV (.int (rsd best T (inn ev) : Nat))) (ev_call W5.same (ea_cons (ev_varV rfl) inferInstance (ea_cons (ev_varV rfl) inferInstance (ea_cons (ev_varV rfl) inferInstance ea_nil))) fun F6 H6 vs Q6 g6 s6 hvs r6 => ?_) fun v6 F6 H6 g6 W6 e6 => ?_)
        · cases hvs with
          | cons h1 hvs =>
            cases hvs with
            | cons h2 hvs =>
              cases hvs with
              | cons h3 hvs =>
                cases hvs
                obtain rfl : _ = V.int (best : Int) := h1
                obtain rfl : _ = V.int T := h2
                obtain rfl : _ = V.bl ev := h3
                exact ⟨F6, best, T, ev, rfl, s6, r6⟩
        · obtain rfl : v6 = _ := e6
          have hg6 : pG g F6 v := (inferInstance : Mn (pG g)).mn (((g3.fx.trans g4.fx).trans sF).trans g6.fx) hg2
          have hl6 := (inferInstance : Mn (pLn d)).mn g6.fx hl
          refine w_ret W6 (P := isEx (fun n : Nat => isTup [isV (.int (n : Nat)), pLn (d + 1)]) (LenOk g (inn ev))) (ev_if (b := decide ((best : Int) < (rsd best T (inn ev) : Nat))) (et_test (ev_op (ev_varV rfl) (ev_varV rfl) inferInstance op_I0)) (fun hb => ?_) fun hb => ?_) fun v7 F7 H7 g7 W7 h7 => k v7 F7 H7 W7.gr h7
          · refine EvP.imp (ev_tup (Ps := [isV (.int (rsd best T (inn ev) : Nat)), pLn (d + 1)]) (ea_cons (ev_varV rfl) inferInstance (ea_cons (EvP.imp (ev_op (Pa := pLn 1) (EvP.imp (ev_lst (Ps := [isTup [pG g, isV (.int T)]]) (ea_cons (ev_tup (Ps := [pG g, isV (.int T)]) (ea_cons (ev_var rfl inferInstance hg6) inferInstance (ea_cons (ev_varV rfl) inferInstance ea_nil)) inferInstance) inferInstance ea_nil) inferInstance) fun F v ⟨a, vs, e, h, hv⟩ => ⟨a, vs, e, h, by rw [hv.length]; exact Nat.le_refl _⟩) (ev_var rfl inferInstance hl6) inferInstance (op_catLn (by omega))) fun F v h => h.le (by omega)) inferInstance ea_nil)) inferInstance) fun F v h => ⟨_, hlen, h⟩
          · have er : rsd best T (inn ev) = best := by
              have := of_decide_eq_false hb
              unfold rsd at this ⊢
              split at this
              · omega
              · rename_i z
                rw [if_neg z]; rfl
            rw [er] at hlen
            exact EvP.imp (ev_tup (Ps := [isV (.int (best : Int)), pLn d]) (ea_cons (ev_varV rfl) inferInstance (ea_cons (ev_var rfl inferInstance hl6) inferInstance ea_nil)) inferInstance) fun F v ⟨a, vs, e, h, hv⟩ => ⟨best, hlen, a, vs, e, h, by
              cases hv with
              | cons h1 hv =>
                cases hv with
                | cons h2 hv =>
                  cases hv
                  exact .cons h1 (.cons (h2.le (by omega)) .nil)⟩
end
end EL

set_option Elab.async false
set_option linter.all false
set_option maxRecDepth 100000
set_option maxHeartbeats 2000000
namespace EL
open PySem PySem.Spec PyProof.Rows L2
section
variable {m : Mach} {g : Gph Int} (ok : MOk m) (M : MEOk m g)
include ok M
theorem MEOk.edge {p q : Int} {t : Tag} (h : (t, q) ∈ adj g p) : MR m p ∧ ∃ c ∈ m.ls, t = (sg c, (stp m p c).2, p) ∧ q = (stp m p c).1 := by
  have hp : p ∈ keys g := Ed.key ⟨t, h⟩
  rw [M.ad p hp] at h
  obtain ⟨c, hc, e⟩ := List.mem_map.mp h
  cases e
  exact ⟨(M.ks p).mp hp, c, hc, rfl, rfl⟩
theorem MEOk.wf : Wf g := ⟨M.nd, fun u v ⟨t, h⟩ => by
  obtain ⟨h1, c, hc, _, e⟩ := M.edge ok h
  rw [e]
  exact (M.ks _).mpr (h1.step hc)⟩
theorem MEOk.len : g.length ≤ 3 := by
  have := int_range M.nd fun p hp => ((M.ks p).mp hp).rng ok
  have h2 := ok.t2
  simp [keys] at this
  omega
theorem MEOk.cap : EL.cap g ≤ 10000 := by
  have hw : ∀ r : Gph Int, (∀ p ∈ r, p.2.length ≤ 3) → wgt [] r ≤ 8 * r.length := by
    intro r
    induction r with
    | nil => intro _; exact Nat.le_refl _
    | cons p r ih =>
      intro h
      have h1 := h p List.mem_cons_self
      have h2 := ih fun q hq => h q (List.mem_cons_of_mem _ hq)
      show (if p.1 ∈ [] then 0 else 2 * p.2.length + 2) + wgt [] r ≤ 8 * (r.length + 1)
      rw [if_neg (by simp)]
      omega
  have h1 := hw g fun p hp => by
    have hl : luk g p.1 = some p.2 := luk_of_mem M.nd hp
    have ha : adj g p.1 = p.2 := by unfold adj; rw [hl]; rfl
    rw [← ha, M.ad _ (List.mem_map.mpr ⟨p, hp, rfl⟩)]
    unfold madj
    rw [List.length_map]
    show m.al.cps.toList.length ≤ 3
    rw [Array.length_toList]
    exact (alph_size ok.al).2
  have h2 := M.len ok
  unfold EL.cap
  omega
theorem MEOk.prb : PrB g 4 := fun u t v e => by
  obtain ⟨h1, c, hc, e1, _⟩ := M.edge ok e
  have hr := h1.rng ok
  have := stp_rng ok hr.1 hr.2 hc
  rw [e1]
  exact ⟨this.2.2.1, by show (stp m u c).2 < 4; omega⟩
end
/-- the machine's longest chain -/
def MLen (m : Mach) (inner n : Nat) : Prop := ∃ g, MEOk m g ∧ LenOk g inner n
def spLg (K : PySem.W.Frag) : Sp := fun vs H Q _ => ∃ (F : Hp) (m : Mach) (v : V) (ev : Bool), vs = [v, .bl ev] ∧ Same F H ∧ pM K m F v ∧ MOk m ∧ Ret F H (isEx (fun n : Nat => isTup [isV (.int (n : Nat)), pLn 4]) (MLen m (inn ev))) Q
theorem sc_longest : FnScope ["machine", "even", "best", "line", "inside", "length", "parts"] ["machine", "even"] (defScope sLongest) := ⟨rfl, rfl, rfl, by decide +kernel, rfl, by decide +kernel, by decide +kernel⟩
section
variable {P : Program} {w : World} {K : PySem.W.Frag} {mg : Str → Option Value} {base : Heap}
theorem ok_longest (E : Tops K mg) : Cal P w K mg base 9 "longest" ["machine", "even"] (spLg K) := by
  have c_longest_in : Cal P w K mg base 8 "longest_in" ["edges", "even"] (spLI 4) := ok_longest_in E 4
  have c_parts_of : Cal P w K mg base 8 "parts_of" ["edges"] spPO := (ok_parts_of E).mono (by omega)
  have c_machine_edges : Cal P w K mg base 8 "machine_edges" ["machine"] (spME K) := (ok_machine_edges E).mono (by omega)
  refine Cal.of E.f_Longest E.g_longest sc_longest (fun _ _ _ _ _ _ us hl => match us, hl with | [_, _], _ => rfl) (fun vs H Q Ex h => ?_) (fun cdv A outer s H vs Q Ex hr h => ?_)
  · obtain ⟨F, m, v, ev, rfl, _⟩ := h
    rfl
  · obtain ⟨F, m, v, ev, rfl, s0, hm, ok, k⟩ := h
    refine ⟨_, (pss_cons (ps_par (i := 2) (j := 3) (by rfl) sc_longest.nd rfl rfl (by decide) rfl rfl (pa_cons pe_int (pa_cons (pe_lst pa_nil) pa_nil)) (by rfl))
      (pss_cons (ps_for PassesOwn.never rfl (pi_listK (K := K) rfl (pe_cal c_parts_of (hr.mono (by omega)) rfl (pa_cons (pe_cal c_machine_edges (hr.mono (by omega)) rfl (pa_cons (pv 0) pa_nil)) pa_nil))) (pg_name (i := 4) sc_longest.nd rfl (.inl rfl))
        (pss_cons (ps_asg (pe_cal c_longest_in (hr.mono (by omega)) rfl (pa_cons (pv 4) (pa_cons (pv 1) pa_nil))) (pg_tupK (K := K) (n := 2) rfl rfl (pgs_cons (pg_name (i := 5) sc_longest.nd rfl (.inl rfl)) (pgs_cons (pg_name (i := 6) sc_longest.nd rfl (.inl rfl)) pgs_nil))))
        (pss_one (ps_if (pt_cmpR op_gt (pv 5) (pv 2) (nomark _))
          (pss_one (ps_par (i := 2) (j := 3) (by rfl) sc_longest.nd rfl rfl (by decide) rfl rfl (pa_cons (pv 5) (pa_cons (pv 6) pa_nil)) (by rfl)))
          pss_nil))))
      (pss_one (ps_ret (pe_tup (pa_cons (pv 2) (pa_cons (pv 3) pa_nil))))))), ?_⟩
    have W0 := Wr.start s0
    refine w_seq (w_par W0 (P1 := isV (.int 0)) (P2 := pLn 4) (ea_cons ev_c inferInstance (ea_cons (EvP.imp (ev_lst (Ps := []) ea_nil inferInstance) fun F v ⟨a, vs, e, h, hv⟩ => ⟨a, vs, e, h, by cases hv; exact Nat.zero_le _⟩) inferInstance ea_nil)) fun v3 v4 F2 H2 s2 W2 e3 h4 => ?_)
    obtain rfl : v3 = .int 0 := e3
    have hm2 := (inferInstance : Mn (pM K m)).mn s2 hm
    -- the parts of the machine's graph
    dsimp only
    refine w_seq (w_forEx (K := K) (Pa := fun gs : List (Gph Int) => isLst (gs.map pG)) (C := fun gs => ∃ g, MEOk m g ∧ PartsOk g gs) W2 ?_ fun gs vg F3 H3 ⟨g, hM, hgs⟩ g3 W3 hvg => ?_)
    · intro F3 H3 g3 s3 Q3 q3
      have sm3 := Gr.same W2.same g3
      show tCall spPO [] E0 _ _ _ _
      refine ev_call (R := isEx (fun g : Gph Int => pG g) (MEOk m)) (sp := spME K) (ta := tCons (tVar 0) tNil) W2.same (ea_cons (P := pM K m) (ev_var rfl inferInstance hm2) inferInstance ea_nil) (fun F4 H4 vs Q4 g4 s4 hvs r4 => ?_) F3 H3 g3 s3 _ fun vG F4 H4 g4 ⟨g, hM, hg⟩ => ?_
      · cases hvs with
        | cons h1 hvs =>
          cases hvs
          exact ⟨F4, m, _, rfl, s4, h1, ok, r4⟩
      · exact ⟨F4, g, vG, rfl, Gr.same sm3 g4, hg, hM.wf ok, hM.cap ok, fun v5 F5 H5 g5 ⟨gs, hgs, h5⟩ => q3 v5 F5 H5 (g4.trans g5) ⟨gs, ⟨g, hM, hgs⟩, h5⟩⟩
    · have Wg := hM.wf ok
      have hip := parts_isPart Wg hgs
      refine w_forLm (f := pG) (xs := gs) W3 (ev_lit inferInstance hvg) (fun _ => inferInstance) fun F4 H4 g4 W4 => ?_
      refine ⟨fun i σ' F' H' => ∃ (best : Nat) (vl : V) (x4 x5 x6 : Option V), σ' = [some v, some (.bl ev), some (.int (best : Int)), some vl, x4, x5, x6] ∧ Wr F H [] F' H' none ∧ pLn 4 F' vl ∧ BestI (gs.take i) (inn ev) best,
        ⟨0, v4, _, _, _, rfl, W4, (inferInstance : Mn (pLn 4)).mn (g3.trans g4).fx h4, by rw [List.take_zero]; exact BestI.start⟩, ?_, ?_⟩
      · rintro i h vh σ' F' H' hi hvh sF ⟨best, vl, x4, x5, x6, rfl, W5, hl, B⟩
        obtain ⟨Ih, hsub⟩ := hip h (List.mem_of_getElem? hi)
        have hvh : pG h F' vh := hvh
        have htk : gs.take (i + 1) = gs.take i ++ [h] := by rw [List.take_succ, hi]; rfl
        refine w_seq (w_asg W5 (P := isEx (fun n : Nat => isTup [isV (.int (n : Nat)), pLn 4]) (LenOk h (inn ev))) (ev_call W5.same (ea_cons (P := pG h) (ev_var rfl inferInstance hvh) inferInstance (ea_cons (ev_varV rfl) inferInstance ea_nil)) fun F6 H6 vs Q6 g6 s6 hvs r6 => ?_) fun vr F6 H6 g6 W6 ⟨n, hn, hvr⟩ => ?_)
        · cases hvs with
          | cons h1 hvs =>
            cases hvs with
            | cons h2 hvs =>
              cases hvs
              obtain rfl : _ = V.bl ev := h2
              exact ⟨F6, h, _, ev, rfl, s6, h1, Ih, Nat.le_trans (parts_cap hgs h (List.mem_of_getElem? hi)) (hM.cap ok), fun u t v e => hM.prb ok u t v (hsub u t v e), by omega, r6⟩
        · refine tg_tup2 W6.sub hvr fun va vb ha hb => ?_
          obtain rfl : va = .int (n : Int) := ha
          have hb : pLn 4 F6 vb := hb
          have hl6 := (inferInstance : Mn (pLn 4)).mn g6.fx hl
          dsimp only
          refine w_if W6 (b := decide ((best : Int) < (n : Int))) (et_test (ev_op (ev_varV rfl) (ev_varV rfl) inferInstance op_I0)) (fun hlt F7 H7 g7 W7 => ?_) fun hlt F7 H7 g7 W7 => ?_
          · refine w_par W7 (P1 := isV (.int (n : Int))) (P2 := pLn 4) (ea_cons (ev_varV rfl) inferInstance (ea_cons (ev_var rfl inferInstance ((inferInstance : Mn (pLn 4)).mn g7.fx hb)) inferInstance ea_nil)) fun v8 v9 F8 H8 s8 W8 e8 h9 => ?_
            obtain rfl : v8 = .int (n : Int) := e8
            refine ⟨F8, ((sF.trans g6.fx).trans g7.fx).trans s8, W8.sub, n, v9, _, _, _, rfl, W8, h9, ?_⟩
            rw [htk]
            exact B.up hn (by have := of_decide_eq_true hlt; omega)
          · refine ⟨F7, (sF.trans g6.fx).trans g7.fx, W7.sub, best, vl, _, _, _, rfl, W7, (inferInstance : Mn (pLn 4)).mn g7.fx hl6, ?_⟩
            rw [htk]
            exact B.stay hn (by have := of_decide_eq_false hlt; omega)
      · rintro σ' F' H' sF ⟨best, vl, x4, x5, x6, rfl, W5, hl, B⟩
        rw [List.take_length] at B
        have hlen := LenOk.parts Wg hgs B.b B.m
        dsimp only
        exact w_ret W5 (ev_tup (Ps := [isV (.int (best : Int)), pLn 4]) (ea_cons (ev_varV rfl) inferInstance (ea_cons (ev_var rfl inferInstance hl) inferInstance ea_nil)) inferInstance) fun v7 F7 H7 g7 W7 h7 => k v7 F7 H7 W7.gr ⟨best, ⟨g, hM, hlen⟩, h7⟩
end
/-! chain_length(machine, *, even=True) -/
structure CaC (P : Program) (w : World) (K : PySem.W.Frag) (mg : Str → Option Value) (base : Heap) (k : Nat) (sp : Sp) : Prop where
  fn : ∃ fd, FnOk P w K mg base CX0 k (He.ga K "chain_length") fd ["machine", "even"] sp ∧ (∃ g, KBn K fd ["machine", "even"] 1 ["even"] g fun vs zs => vs ++ zs) ∧ ∃ ds, Vals [.bl true] ds ∧ Binds K fd ["machine", "even"] ds
  mg : mg "chain_length" = some (.ref (He.ga K "chain_length"))
  kp : PySem.W.keepIn K (.ref (He.ga K "chain_length")) = true
theorem CaC.mono {P : Program} {w : World} {K : PySem.W.Frag} {mg : Str → Option Value} {base : Heap} {j k : Nat} {sp : Sp} (c : CaC P w K mg base j sp) (h : j ≤ k) : CaC P w K mg base k sp := by
  obtain ⟨fd, F, b1, b2⟩ := c.fn
  exact ⟨⟨fd, F.mono h, b1, b2⟩, c.mg, c.kp⟩
section
variable {X : Cx} {k : Nat} {sp : Sp} {p pos : Pos} {e : Expr} {es : List Expr} {kws : List Keyword} {t tk : TA}
theorem pe_chlK (C : CaC X.prog X.w X.K X.mg X.base k sp) (hr : Room k X.A) (hg : Gl X "chain_length") (ha : PA X (e :: es) t) (hkw : PK X kws tk)
    (hall : (backToKw pos (keywordEach kws X.env)).all (·.1.isSome) = true := by rfl) (hks : (backToKw pos (keywordEach kws X.env)).filterMap (·.1) = ([Str.ofString "even"] : List Str) := by rfl)
    (he : starEach (e :: es) X.env = (false, eval e X.env) :: starEach es X.env := by rfl) (hpl : ((backTo pos (starEach (e :: es) X.env)).any (·.1) || (backToKw pos (keywordEach kws X.env)).any (·.1.isNone)) = false := by rfl) :
    PE X (.Call (.Name "chain_length" p) (e :: es) kws pos) (tCallN 1 1 sp (fun vs zs => vs ++ zs) E0 t tk) := by
  obtain ⟨⟨fd, F, ⟨g, b⟩, _⟩, gm, kp⟩ := C
  exact pe_callN (n := 1) F hr hg gm kp b pass0 ha hkw hall hks (by decide) he hpl
theorem pe_chl0K (C : CaC X.prog X.w X.K X.mg X.base k sp) (hr : Room k X.A) (hg : Gl X "chain_length") (ha : PA X (e :: es) t)
    (he : starEach (e :: es) X.env = (false, eval e X.env) :: starEach es X.env := by rfl) (hpl : (backTo pos (starEach es X.env)).any (·.1) = false := by rfl) :
    PE X (.Call (.Name "chain_length" p) (e :: es) [] pos) (tCall sp [.bl true] E0 t) := by
  obtain ⟨⟨fd, F, _, ds, hd, b⟩, gm, kp⟩ := C
  exact pe_call F hr hg gm kp b hd pass0 ha (by decide) he hpl
end
def spCL (K : PySem.W.Frag) : Sp := fun vs H Q _ => ∃ (F : Hp) (m : Mach) (v : V) (ev : Bool), vs = [v, .bl ev] ∧ Same F H ∧ pM K m F v ∧ MOk m ∧ Ret F H (isEx (fun n : Nat => isV (.int (n : Nat))) (MLen m (inn ev))) Q
theorem sc_chain_length : FnScope ["machine", "even"] ["machine", "even"] (defScope sChainLength) := ⟨rfl, rfl, rfl, by decide +kernel, rfl, by decide +kernel, by decide +kernel⟩
section
variable {P : Program} {w : World} {K : PySem.W.Frag} {mg : Str → Option Value} {base : Heap}
theorem ok_chain_length (E : Tops K mg) : CaC P w K mg base 10 (spCL K) := by
  have c_longest : Cal P w K mg base 9 "longest" ["machine", "even"] (spLg K) := ok_longest E
  obtain ⟨fd, Fd⟩ := E.f_ChainLength
  have ok : FnOk P w K mg base CX0 10 (He.ga K "chain_length") fd ["machine", "even"] (spCL K) := by
    refine Fd.ok sc_chain_length (fun vs H Q Ex h => ?_) fun cdv A outer s H vs Q Ex hr h => ?_
    · obtain ⟨F, m, v, ev, rfl, _⟩ := h
      rfl
    · obtain ⟨F, m, v, ev, rfl, s0, hm, ok, k⟩ := h
      suffices hs : ∃ t, PSs (cxOf CX0 P w K mg base ["machine", "even"] "chain_length" (defScope sChainLength) (He.ga K "chain_length") cdv A outer s H Ex).nox (defBody sChainLength) t ∧ t { nx := fun _ H' => Q .non H', rt := Q } (start ["machine", "even"] [v, .bl ev]) H by
        obtain ⟨t, h1, h2⟩ := hs
        exact ⟨t, h1.nox, h2⟩
      refine ⟨_, (pss_one (ps_ret (pe_ix (ix_tupK (K := K) rfl) (pe_cal c_longest (hr.mono (by omega)) rfl (pa_cons (pv 0) (pa_cons (pv 1) pa_nil))) pe_int (fun _ _ => rfl)))), ?_⟩
      have W0 := Wr.start s0
      refine w_ret W0 (P := isEx (fun n : Nat => isV (.int (n : Nat))) (MLen m (inn ev))) (ev_op (Pa := isEx (fun n : Nat => isTup [isV (.int (n : Nat)), pLn 4]) (MLen m (inn ev))) (ev_call s0 (ea_cons (P := pM K m) (ev_var rfl inferInstance hm) inferInstance (ea_cons (ev_varV rfl) inferInstance ea_nil)) fun F1 H1 vs Q1 g1 s1 hvs r1 => ?_) ev_c inferInstance ?_) fun v7 F7 H7 g7 W7 h7 => k v7 F7 H7 W7.gr h7
      · cases hvs with
        | cons h1 hvs =>
          cases hvs with
          | cons h2 hvs =>
            cases hvs
            obtain rfl : _ = V.bl ev := h2
            exact ⟨F1, m, _, ev, rfl, s1, h1, ok, r1⟩
      · intro F1 H1 x y g s ⟨n, hn, hx⟩ hy Q1 q1
        exact op_ixT (K := K) (Ps := [isV (.int (n : Nat)), pLn 4]) (i := 0) (P := isV (.int (n : Nat))) (F := F1) (H := H1) rfl F1 H1 x y Gr.refl s hx hy Q1 fun v2 F2 H2 g2 h2 => q1 v2 F2 H2 g2 ⟨n, hn, h2⟩
  refine ⟨⟨fd, ok, ?_, ?_⟩, E.g_chain_length, Fd.kp⟩
  · obtain ⟨mv, hb⟩ := Fd.kbinds0 (ps := ["machine", "even"]) 1 ["even"] [] (fun us _ ws => us ++ ws) (by simp) (fun q hq => by cases hq) (fun r1 _ r3 => r1.append r3) fun D doc pm an cdv ct us mv ws l1 l2 l3 => by
      match us, mv, ws, l1, l2, l3 with
      | [_], [], [_], _, _, _ => rfl
    exact ⟨_, hb⟩
  · exact Fd.binds0 (ps := ["machine", "even"]) 1 (by simp) (by simp) fun D doc pm an cdv ct us ks l1 l2 => by
      match us, ks, l1, l2 with
      | [_], [_], _, _ => exact ⟨_, _, _, _, _, _, rfl, rfl, rfl⟩
theorem ev_chl0 {σ : L2.St} {F H : Hp} {ta : TE} {m : Mach} (sm : Same F H) (hm : EvP ta σ F H (pM K m)) (ok : MOk m) : EvP (tCall (spCL K) [.bl true] E0 (tCons ta tNil)) σ F H (isEx (fun n : Nat => isV (.int (n : Nat))) (MLen m 0)) := fun F1 H1 g s Q q =>
  hm F1 H1 g s _ fun v F2 H2 g2 h2 => ⟨F2, m, v, true, rfl, Gr.same sm (g.trans g2), h2, ok, fun v3 F3 H3 g3 h3 => q v3 F3 H3 (g2.trans g3) h3⟩
theorem ev_chl {σ : L2.St} {F H : Hp} {ta : TE} {tk : TA} {m : Mach} {b : Bool} (sm : Same F H) (hm : EvP ta σ F H (pM K m)) (ok : MOk m) (hk : EvA tk σ F H [isV (.bl b)]) : EvP (tCallN 1 1 (spCL K) (fun vs zs => vs ++ zs) E0 (tCons ta tNil) tk) σ F H (isEx (fun n : Nat => isV (.int (n : Nat))) (MLen m (inn b))) := fun F1 H1 g s Q q =>
  hm F1 H1 g s _ fun v F2 H2 g2 h2 => hk F2 H2 (g.trans g2) (s.gr g2) _ fun zs F3 H3 g3 hz => by
    have ez : zs = [.bl b] := PrL.isVs (ws := [.bl b]) hz
    subst ez
    exact ⟨rfl, rfl, F3, m, v, b, rfl, Gr.same sm ((g.trans g2).trans g3), (inferInstance : Mn (pM K m)).mn g3.fx h2, ok, fun v4 F4 H4 g4 h4 => q v4 F4 H4 ((g2.trans g3).trans g4) h4⟩
end
def Few (m : Mach) (z : Int) : Prop := ∃ e o : Nat, MLen m 0 e ∧ MLen m 1 o ∧ z = max (e : Int) o + (if (e : Int) = o then 1 else 0)
def spFP (K : PySem.W.Frag) : Sp := fun vs H Q _ => ∃ (F : Hp) (m : Mach) (v : V), vs = [v] ∧ Same F H ∧ pM K m F v ∧ MOk m ∧ Ret F H (isEx (fun n : Int => isV (.int n)) (Few m)) Q
theorem sc_fewest_priorities : FnScope ["machine", "evens", "odds"] ["machine"] (defScope sFewestPriorities) := ⟨rfl, rfl, rfl, by decide +kernel, rfl, by decide +kernel, by decide +kernel⟩
section
variable {P : Program} {w : World} {K : PySem.W.Frag} {mg : Str → Option Value} {base : Heap}
theorem ok_fewest_priorities (E : Tops K mg) : Cal P w K mg base 11 "fewest_priorities" ["machine"] (spFP K) := by
  have c_chain_length : CaC P w K mg base 10 (spCL K) := ok_chain_length E
  refine Cal.of E.f_FewestPriorities E.g_fewest_priorities sc_fewest_priorities (fun _ _ _ _ _ _ us hl => match us, hl with | [_], _ => rfl) (fun vs H Q Ex h => ?_) (fun cdv A outer s H vs Q Ex hr h => ?_)
  · obtain ⟨F, m, v, rfl, _⟩ := h
    rfl
  · obtain ⟨F, m, v, rfl, s0, hm, ok, k⟩ := h
    refine ⟨_, (pss_cons (ps_par (i := 1) (j := 2) (by rfl) sc_fewest_priorities.nd rfl rfl (by decide) rfl rfl (pa_cons (pe_chl0K c_chain_length (hr.mono (by omega)) rfl (pa_cons (pv 0) pa_nil)) (pa_cons (pe_chlK c_chain_length (hr.mono (by omega)) rfl (pa_cons (pv 0) pa_nil) (pk_cons pe_bl pk_nil)) pa_nil)) (by rfl))
      (pss_one (ps_ret (pe_op op_add (pe_callB (call_max2 rfl) (by rfl) E.n_max bt_max (pa_cons (pv 1) (pa_cons (pv 2) pa_nil))) (pe_callTy call_int1 (by rfl) E.n_int bt_int (pa_cons (pe_cmpR op_eq (pv 1) (pv 2) (nomark _)) pa_nil)))))), ?_⟩
    have W0 := Wr.start s0
    refine w_seq (w_par W0 (P1 := isEx (fun n : Nat => isV (.int (n : Nat))) (MLen m 0)) (P2 := isEx (fun n : Nat => isV (.int (n : Nat))) (MLen m 1)) (ea_cons (ev_chl0 s0 (ev_var rfl inferInstance hm) ok) inferInstance (ea_cons (ev_chl (b := false) s0 (ev_var rfl inferInstance hm) ok (ea_cons ev_c inferInstance ea_nil)) inferInstance ea_nil)) fun v1 v2 F2 H2 s2 W2 ⟨e, he, e1⟩ ⟨o, ho, e2⟩ => ?_)
    obtain rfl : v1 = .int (e : Int) := e1
    obtain rfl : v2 = .int (o : Int) := e2
    refine w_ret W2 (ev_op (ev_cb (ea_cons (ev_varV rfl) inferInstance (ea_cons (ev_varV rfl) inferInstance ea_nil)) ca_max2) (ev_cb (ea_cons (ev_op (ev_varV rfl) (ev_varV rfl) inferInstance (op_Eq rfl)) inferInstance ea_nil) ca_int1) inferInstance op_I0) fun v3 F3 H3 g3 W3 e3 => k v3 F3 H3 W3.gr ⟨_, ⟨e, o, he, ho, rfl⟩, ?_⟩
    obtain rfl : v3 = _ := e3
    show V.int _ = V.int _
    congr 2
    by_cases z : (e : Int) = (o : Int)
    · rw [if_pos z, decide_eq_true (by rw [z])]; rfl
    · rw [if_neg z, decide_eq_false (fun q => z (by injection q))]; rfl
end
end EL

set_option Elab.async false
set_option linter.all false
set_option maxRecDepth 100000
set_option maxHeartbeats 1000000
/-! calls that change one thing of the caller's own -/
namespace EL
open PySem PySem.Spec PyProof.Rows L2
def del (H : Hp) (D : Addr) : Hp := fun x => if x = D then none else H x
section
variable {F0 H0 F H F' H' : Hp} {L : List (Addr × HO)} {D : Addr} {o o' : HO} {j : Nat}
theorem del_same : del H D D = none := if_pos rfl
theorem del_ne {x : Addr} (h : x ≠ D) : del H D x = H x := if_neg h
theorem upd_del (h : H D = some o) : upd (del H D) D o = H := by
  funext x
  by_cases e : x = D
  · rw [e, upd_same, h]
  · rw [upd_ne e, del_ne e]
theorem same_del (s : Same F H) (f : F D = none) : Same F (del H D) := fun a u e => by
  rw [del_ne (fun z => by rw [z, f] at e; cases e)]
  exact s a u e
theorem Wr.callO (W : Wr F0 H0 L F H none) (hj : L[j]? = some (D, o)) (g : Gr F (del H D) F' H') (hf : F' D = none) (hD : H' D = some o') (nt : notTup o' = true) : Wr F0 H0 (L.set j (D, o')) F' H' none := by
  have hD0 : H0 D = none := W.h0 hj
  have hFD : F D = none := W.f hj
  have sd : Same F (del H D) := same_del W.sm hFD
  refine ⟨⟨fun a u e => ?_, W.gr.fx.trans g.fx, fun a u e1 e2 => ?_⟩, Gr.same sd g, fun _ _ _ e => (by cases e), ?_, fun q hq => ?_⟩
  · have ne : a ≠ D := fun z => by rw [z, hD0] at e; cases e
    exact g.ex a u (by rw [del_ne ne]; exact W.gr.ex a u e)
  · have ne : a ≠ D := fun z => by rw [z, hf] at e2; cases e2
    cases q : F a with
    | some u' =>
      have := g.fx a u' q
      rw [e2] at this
      cases this
      obtain ⟨n1, n2⟩ := W.gr.nw a u e1 q
      exact ⟨g.ex a u (by rw [del_ne ne]; exact n1), n2⟩
    | none =>
      obtain ⟨n1, n2⟩ := g.nw a u q e2
      refine ⟨n1, n2.imp (fun n => ?_) id⟩
      rw [del_ne ne] at n
      exact W.gr.ex.free n
  · have : (L.set j (D, o')).map (·.1) = L.map (·.1) := by
      rw [List.map_set]
      refine List.ext_getElem? fun i => ?_
      rw [List.getElem?_set]
      split
      · rename_i z
        subst z
        rw [List.getElem?_map, hj]
        split
        · rfl
        · rename_i z2
          have := (List.getElem?_eq_some_iff.mp hj).1
          simp at z2; omega
      · rfl
    rw [this]; exact W.nd
  · obtain ⟨i, hi⟩ := List.getElem?_of_mem hq
    rw [List.getElem?_set] at hi
    split at hi
    · split at hi
      · cases hi; exact ⟨hD0, hf, hD, nt⟩
      · cases hi
    · rename_i z
      obtain ⟨x1, x2, x3, x4⟩ := W.ow q (List.mem_of_getElem? hi)
      have ne : q.1 ≠ D := W.ne (a := q.1) (q := q.2) hi hj (Ne.symm z)
      have x3' : del H D q.1 = some q.2 := by rw [del_ne ne]; exact x3
      exact ⟨x1, g.none x2 x3' x4, g.ex _ _ x3', x4⟩
variable {σ : L2.St} {sp : Sp} {ta : TA} {Ps : List Pr} {R : Hp → HO → V → Prop} {Q' : VK}
/-- what a callee that changes D hands back -/
def RetO (F H : Hp) (D : Addr) (R : Hp → HO → V → Prop) (Q : VK) : Prop := ∀ v F' H' o', Gr F (del H D) F' H' → F' D = none → H' D = some o' → notTup o' = true → R F' o' v → Q v H'
theorem callO (W : Wr F0 H0 L F H none) (hj : L[j]? = some (D, o)) (ha : EvA ta σ F H Ps) (hs : ∀ F1 H1 vs (Q : VK), Same F F1 → Same F1 H1 → F1 D = none → H1 D = some o → PrL F1 Ps vs → RetO F1 H1 D R Q → sp vs H1 Q E0)
    (c : ∀ v F' H' o', Same F F' → Wr F0 H0 (L.set j (D, o')) F' H' none → R F' o' v → Q' v H') : tCall sp [] E0 ta σ H Q' :=
  ha F H Gr.refl W.sub _ fun vs F1 H1 g1 ps => by
    have W1 := W.gro g1
    rw [List.append_nil]
    exact hs F1 H1 vs _ g1.fx W1.same (W1.f hj) (W1.at hj) ps fun v F' H' o' g hf hD nt r => c v F' H' o' (g1.fx.trans g.fx) (W1.callO hj g hf hD nt) r
/-- the callee's own world: D among its things -/
theorem Wr.startO (s : Same F H) (f : F D = none) (h : H D = some o) (nt : notTup o = true) : Wr F (del H D) [(D, o)] F H none :=
  ⟨⟨fun a u e => (by
    show H a = some u
    by_cases z : a = D
    · rw [z, del_same] at e; cases e
    · rw [del_ne z] at e; exact e), Same.refl _, fun a u h1 h2 => (by rw [h1] at h2; cases h2)⟩, s, fun _ _ _ e => (by cases e), by simp, fun p hp => by
    rw [List.mem_singleton.mp hp]
    exact ⟨del_same, f, h, nt⟩⟩
/-- and its end -/
theorem Wr.endO {G : Hp} (W : Wr F (del G D) ((D, o) :: L) F' H' none) : Gr F (del G D) F' H' ∧ F' D = none ∧ H' D = some o ∧ notTup o = true := by
  obtain ⟨h1, h2, h3, h4⟩ := W.ow (D, o) List.mem_cons_self
  exact ⟨W.gr, h2, h3, h4⟩
end
end EL

set_option Elab.async false
set_option linter.all false
set_option maxRecDepth 100000
set_option maxHeartbeats 1000000
/-! labels by parts. Plain. -/
namespace EL
open PySem
abbrev LKey := Int × Str
abbrev LTab := List (LKey × Int)
def tk (t : Tag) : LKey := (t.2.2, t.1)
def lb (l : LTab) (b : Int) (t : Tag) : Int := (luk l (tk t)).getD b
def EdT (g : Gph Int) (t : Tag) : Prop := ∃ u v, (t, v) ∈ adj g u
structure LG (g : Gph Int) (KS : List LKey) : Prop where
  tn : ∀ u t v, (t, v) ∈ adj g u → t.2.2 = u
  un : ∀ t t', EdT g t → EdT g t' → tk t = tk t' → t = t'
  ks : ∀ t, EdT g t → tk t ∈ KS
theorem LG.sub {g h : Gph Int} {KS : List LKey} (L : LG g KS) (s : ∀ u t v, (t, v) ∈ adj h u → (t, v) ∈ adj g u) : LG h KS :=
  have e : ∀ t, EdT h t → EdT g t := fun t ⟨u, v, h⟩ => ⟨u, v, s u t v h⟩
  ⟨fun u t v h => L.tn u t v (s u t v h), fun t t' h h' => L.un t t' (e t h) (e t' h'), fun t h => L.ks t (e t h)⟩
def ParE (l : LTab) (b : Int) (ts : List Tag) : Prop := ∃ x, x ∈ ts ∧ (∀ y ∈ ts, y.2.1 ≤ x.2.1) ∧ ∃ z, z ∈ ts ∧ (∀ y ∈ ts, lb l b y ≤ lb l b z) ∧ (lb l b z - x.2.1) % 2 = 0
theorem ParE.congr {l l' : LTab} {b : Int} {ts : List Tag} (h : ∀ y ∈ ts, luk l' (tk y) = luk l (tk y)) (p : ParE l b ts) : ParE l' b ts := by
  have e : ∀ y ∈ ts, lb l' b y = lb l b y := fun y hy => by unfold lb; rw [h y hy]
  obtain ⟨x, hx, h1, z, hz, h2, h3⟩ := p
  exact ⟨x, hx, h1, z, hz, fun y hy => by rw [e y hy, e z hz]; exact h2 y hy, by rw [e z hz]; exact h3⟩
structure LbOk (g : Gph Int) (KS : List LKey) (b : Nat) (l l' : LTab) (n : Nat) : Prop where
  len : LenOk g (1 - b) n
  nd : (l'.map (·.1)).Nodup
  sub : ∀ k ∈ l'.map (·.1), k ∈ KS
  out : ∀ k, (∀ t, EdT g t → tk t ≠ k) → luk l' k = luk l k
  rng : ∀ t, EdT g t → (b : Int) ≤ lb l' b t ∧ lb l' b t ≤ b + n
  par : ∀ q ts, Wk g q ts q → ts ≠ [] → ParE l' b ts
structure LbI (gs : List (Gph Int)) (KS : List LKey) (b : Nat) (l l' : LTab) (nb : Nat) : Prop where
  best : BestI gs (1 - b) nb
  nd : (l'.map (·.1)).Nodup
  sub : ∀ k ∈ l'.map (·.1), k ∈ KS
  out : ∀ k, (∀ h ∈ gs, ∀ t, EdT h t → tk t ≠ k) → luk l' k = luk l k
  rng : ∀ h ∈ gs, ∀ t, EdT h t → (b : Int) ≤ lb l' b t ∧ lb l' b t ≤ b + nb
  par : ∀ h ∈ gs, ∀ q ts, Wk h q ts q → ts ≠ [] → ParE l' b ts
theorem LbI.start {KS : List LKey} {b : Nat} {l : LTab} (nd : (l.map (·.1)).Nodup) (sub : ∀ k ∈ l.map (·.1), k ∈ KS) : LbI [] KS b l l 0 :=
  ⟨BestI.start, nd, sub, fun _ _ => rfl, fun h hh => (by cases hh), fun h hh => (by cases hh)⟩
theorem LbI.step {gs : List (Gph Int)} {KS : List LKey} {b : Nat} {l l' l'' : LTab} {nb n : Nat} {h : Gph Int} (I : LbI gs KS b l l' nb) (dis : ∀ h' ∈ gs, ∀ t t', EdT h' t → EdT h t' → tk t ≠ tk t') (o : LbOk h KS b l' l'' n) : LbI (gs ++ [h]) KS b l l'' (max nb n) := by
  have kept : ∀ h' ∈ gs, ∀ t, EdT h' t → luk l'' (tk t) = luk l' (tk t) := fun h' hh t ht => o.out _ fun t' ht' e => dis h' hh t t' ht ht' e.symm
  refine ⟨?_, o.nd, o.sub, fun k hk => ?_, fun h' hh t ht => ?_, fun h' hh q ts hw hne => ?_⟩
  · by_cases lt : nb < n
    · rw [Nat.max_eq_right (by omega)]
      exact I.best.up o.len lt
    · rw [Nat.max_eq_left (by omega)]
      exact I.best.stay o.len lt
  · rw [o.out k fun t ht => hk h (by simp) t ht]
    exact I.out k fun h' hh t ht => hk h' (List.mem_append_left _ hh) t ht
  · rcases List.mem_append.mp hh with z | z
    · have := I.rng h' z t ht
      have e : lb l'' b t = lb l' b t := by unfold lb; rw [kept h' z t ht]
      rw [e]
      omega
    · rw [List.mem_singleton.mp z] at ht
      have := o.rng t ht
      omega
  · rcases List.mem_append.mp hh with z | z
    · refine (I.par h' z q ts hw hne).congr fun y hy => ?_
      obtain ⟨u, v, e, _⟩ := hw.edge y hy
      exact kept h' z y ⟨u, v, e⟩
    · rw [List.mem_singleton.mp z] at hw
      exact o.par q ts hw hne
theorem parts_disj {g : Gph Int} {gs : List (Gph Int)} (P : PartsOk g gs) : gs.Pairwise fun h h' => ∀ u, u ∈ keys h → u ∉ keys h' := by
  obtain ⟨part, P, rfl⟩ := P
  refine List.Pairwise.filter _ (List.pairwise_map.mpr ?_)
  refine List.pairwise_lt_range.imp fun {a b} lt u hu hu' => ?_
  have h1 := (comp_key.mp hu).2
  have h2 := (comp_key.mp hu').2
  rw [h1] at h2
  injection h2 with h2
  omega
theorem disj_at {g : Gph Int} {gs : List (Gph Int)} {KS : List LKey} (W : Wf g) (L : LG g KS) (P : PartsOk g gs) {i : Nat} {h : Gph Int} (hi : gs[i]? = some h) : ∀ h' ∈ gs.take i, ∀ t t', EdT h' t → EdT h t' → tk t ≠ tk t' := by
  intro h' hh t t' ⟨u, v, e⟩ ⟨u', v', e'⟩ ek
  obtain ⟨j, hj⟩ := List.getElem?_of_mem hh
  rw [List.getElem?_take] at hj
  split at hj
  · rename_i lt
    have hm := List.mem_of_getElem? hj
    have hm' := List.mem_of_getElem? hi
    have s1 := (parts_isPart W P h' hm).2
    have s2 := (parts_isPart W P h hm').2
    have t1 := L.tn u t v (s1 u t v e)
    have t2 := L.tn u' t' v' (s2 u' t' v' e')
    have e3 : t.2.2 = t'.2.2 := congrArg Prod.fst ek
    have e4 : u = u' := by rw [← t1, ← t2, e3]
    subst e4
    have pw := parts_disj P
    obtain ⟨hjl, ej⟩ := List.getElem?_eq_some_iff.mp hj
    obtain ⟨hil, ei⟩ := List.getElem?_eq_some_iff.mp hi
    have := List.pairwise_iff_getElem.mp pw j i hjl hil lt u (by rw [ej]; exact Ed.key ⟨t, e⟩)
    rw [ei] at this
    exact this (Ed.key ⟨t', e'⟩)
  · cases hj
theorem Wk.part {g : Gph Int} (W : Wf g) {gs : List (Gph Int)} (P : PartsOk g gs) {q : Int} {ts : List Tag} (w : Wk g q ts q) (hne : ts ≠ []) : ∃ h ∈ gs, Wk h q ts q := by
  obtain ⟨part, P, rfl⟩ := P
  have hqk : q ∈ keys g := by
    cases w with
    | nil => exact absurd rfl hne
    | cons e _ => exact Ed.key ⟨_, e⟩
  obtain ⟨c, hc⟩ := P.at hqk
  have hw := w.comp P W (.refl q) hc
  obtain ⟨c1, c2⟩ := P.rng q c hc
  have ec : ((c.toNat : Nat) : Int) = c := by omega
  refine ⟨compN g part c.toNat, List.mem_filter.mpr ⟨List.mem_map.mpr ⟨c.toNat, List.mem_range.mpr (by omega), rfl⟩, ?_⟩, ?_⟩
  · unfold compN; rw [ec]
    cases ts with
    | nil => exact absurd rfl hne
    | cons x ts =>
      obtain ⟨a, b, he, _⟩ := hw.edge x List.mem_cons_self
      exact hasE_iff.mpr ⟨a, x, b, he⟩
  · unfold compN; rw [ec]; exact hw
/-- the greatest edges get the best -/
theorem LbI.fin {g : Gph Int} {KS : List LKey} (I : IsPart g) (L : LG g KS) {T : Int} (hT : (∃ u t v, (t, v) ∈ adj g u ∧ t.2.1 = T) ∧ ∀ u t v, (t, v) ∈ adj g u → t.2.1 ≤ T) {gs : List (Gph Int)} (P : PartsOk (bl g T) gs) {b : Nat} (hb : b ≤ 1) {l l' l'' : LTab} {nb : Nat}
    (B : LbI gs KS b l l' nb) (non : ∀ t, EdT g t → luk l (tk t) = none) (nd : (l''.map (·.1)).Nodup) (sub : ∀ k ∈ l''.map (·.1), k ∈ KS)
    (top : ∀ t, EdT g t → t.2.1 = T → luk l'' (tk t) = some ((b : Int) + rsd nb T (1 - b))) (old : ∀ k, (∀ t, EdT g t → t.2.1 = T → tk t ≠ k) → luk l'' k = luk l' k) : LbOk g KS b l l'' (rsd nb T (1 - b)) := by
  have Wb := bl_wf (t := T) I.wf
  have sb : ∀ h ∈ gs, ∀ u t v, (t, v) ∈ adj h u → (t, v) ∈ adj g u ∧ t.2.1 < T := fun h hh u t v e => bl_mem.mp ((parts_isPart Wb P h hh).2 u t v e)
  have le : nb ≤ rsd nb T (1 - b) := by unfold rsd; omega
  -- an edge below T keeps its label
  have low : ∀ t, EdT g t → t.2.1 ≠ T → luk l'' (tk t) = luk l' (tk t) := fun t ht hne => old _ fun t' ht' e ek => hne (by rw [← L.un t' t ht' ht ek]; exact e)
  have rl : ∀ t, EdT g t → t.2.1 ≠ T → (b : Int) ≤ lb l'' b t ∧ lb l'' b t ≤ b + nb := fun t ht hne => by
    have e : lb l'' b t = lb l' b t := by unfold lb; rw [low t ht hne]
    rw [e]
    by_cases z : ∃ h ∈ gs, EdT h t
    · obtain ⟨h, hh, ht'⟩ := z
      exact B.rng h hh t ht'
    · have : luk l' (tk t) = luk l (tk t) := B.out _ fun h hh t' ht' ek => by
        obtain ⟨u', v', e'⟩ := ht'
        have := L.un t' t ⟨u', v', (sb h hh u' t' v' e').1⟩ ht ek
        subst this
        exact z ⟨h, hh, u', v', e'⟩
      have e2 : lb l' b t = b := by unfold lb; rw [this, non t ht]; rfl
      rw [e2]
      omega
  have rt : ∀ t, EdT g t → t.2.1 = T → lb l'' b t = b + rsd nb T (1 - b) := fun t ht e => by unfold lb; rw [top t ht e]; rfl
  refine ⟨LenOk.raise I hT (LenOk.parts Wb P B.best.b B.best.m), nd, sub, fun k hk => ?_, fun t ht => ?_, fun q ts hw hne => ?_⟩
  · rw [old k fun t ht _ => hk t ht]
    exact B.out k fun h hh t ⟨u, v, e⟩ => hk t ⟨u, v, (sb h hh u t v e).1⟩
  · by_cases e : t.2.1 = T
    · rw [rt t ht e]; omega
    · have := rl t ht e; omega
  · have ed : ∀ x ∈ ts, EdT g x := fun x hx => by obtain ⟨u, v, e, _⟩ := hw.edge x hx; exact ⟨u, v, e⟩
    by_cases z : ∃ x ∈ ts, x.2.1 = T
    · obtain ⟨x, hx, ex⟩ := z
      refine ⟨x, hx, fun y hy => ?_, x, hx, fun y hy => ?_, ?_⟩
      · obtain ⟨u, v, e⟩ := ed y hy
        rw [ex]; exact hT.2 u y v e
      · rw [rt x (ed x hx) ex]
        by_cases e : y.2.1 = T
        · rw [rt y (ed y hy) e]; exact Int.le_refl _
        · have := rl y (ed y hy) e; omega
      · rw [rt x (ed x hx) ex, ex]
        unfold rsd
        rcases (show b = 0 ∨ b = 1 by omega) with hb | hb
        · subst hb
          split <;> omega
        · subst hb
          split <;> omega
    · have lt : ∀ x ∈ ts, x.2.1 < T := fun x hx => by
        obtain ⟨u, v, e⟩ := ed x hx
        have h1 := hT.2 u x v e
        have h2 : x.2.1 ≠ T := fun e => z ⟨x, hx, e⟩
        omega
      have wb : ∀ {a c : Int} {ts : List Tag}, Wk g a ts c → (∀ x ∈ ts, x.2.1 < T) → Wk (bl g T) a ts c := by
        intro a c ts w
        induction w with
        | nil u => intro _; exact .nil u
        | cons e _ ih => intro hl; exact .cons (bl_mem.mpr ⟨e, hl _ List.mem_cons_self⟩) (ih fun x hx => hl x (List.mem_cons_of_mem _ hx))
      obtain ⟨h, hh, wh⟩ := (wb hw lt).part Wb P hne
      exact (B.par h hh q ts wh hne).congr fun y hy => low y (ed y hy) fun e => z ⟨y, hy, e⟩
end EL

set_option Elab.async false
set_option linter.all false
set_option maxRecDepth 100000
set_option maxHeartbeats 2000000
namespace EL
open PySem PySem.Spec PyProof.Rows L2
def dLab (l : LTab) : HO := ndLab.dic (l.map fun p => (p.1, V.int p.2))
theorem dLab_keys (l : LTab) : ((l.map fun p => (p.1, V.int p.2)).map (·.1)) = l.map (·.1) := by rw [List.map_map]; rfl
theorem dLab_nt (l : LTab) : notTup (dLab l) = true := isDct_notTup (ndLab.dct _)
def LabR (g : Gph Int) (KS : List LKey) (b : Nat) (l : LTab) : Hp → HO → V → Prop := fun _ o' w => ∃ l' n, o' = dLab l' ∧ LbOk g KS b l l' n ∧ w = .int ((b : Int) + (n : Nat))
def spLb (KS : List LKey) (d : Nat) : Sp := fun vs H Q _ => ∃ (F : Hp) (g : Gph Int) (v : V) (D : Addr) (l : LTab) (b : Nat), vs = [v, .int b, .ref D] ∧ Same F H ∧ F D = none ∧ H D = some (dLab l) ∧ pG g F v ∧ IsPart g ∧ cap g ≤ 10000 ∧ PrB g d ∧ d ≤ 1000 ∧ LG g KS ∧ KS.length ≤ 1000 ∧ b ≤ 1 ∧
  (l.map (·.1)).Nodup ∧ (∀ k ∈ l.map (·.1), k ∈ KS) ∧ (∀ t, EdT g t → luk l (tk t) = none) ∧ RetO F H D (LabR g KS b l) Q
/-- the tags told ahead of place j of node i -/
def Told (g : Gph Int) (i j : Nat) (t : Tag) : Prop := ∃ (i' j' : Nat) (u : Int) (es : List (Tag × Int)) (v : Int), (i' < i ∨ (i' = i ∧ j' < j)) ∧ g[i']? = some (u, es) ∧ es[j']? = some (t, v)
theorem sc_labelled : FnScope ["edges", "base", "labels", "top", "best", "inside", "node", "tag", "target"] ["edges", "base", "labels"] (defScope sLabelled) := ⟨rfl, rfl, rfl, by decide +kernel, rfl, by decide +kernel, by decide +kernel⟩
section
variable {P : Program} {w : World} {K : PySem.W.Frag} {mg : Str → Option Value} {base : Heap}
theorem ok_labelled (E : Tops K mg) (KS : List LKey) : ∀ d : Nat, Cal P w K mg base (4 + d) "labelled" ["edges", "base", "labels"] (spLb KS d)
  | 0 => by
    refine Cal.of (k := 3) E.f_Labelled E.g_labelled sc_labelled (fun _ _ _ _ _ _ us hl => match us, hl with | [_, _, _], _ => rfl) (fun vs H Q Ex h => ?_) (fun cdv A outer s H vs Q Ex hr h => ?_)
    · obtain ⟨F, g, v, D, l, b, rfl, _⟩ := h
      rfl
    · obtain ⟨F, g, v, D, l, b, rfl, s0, fD, hD, hg, I, sm, hp, _⟩ := h
      obtain ⟨u, t, v', e⟩ := hasE_iff.mp I.ed
      have := hp u t v' e
      omega
  | d + 1 => by
    have c_labelled : Cal P w K mg base (4 + d) "labelled" ["edges", "base", "labels"] (spLb KS d) := ok_labelled E KS d
    have c_greatest_in : Cal P w K mg base (4 + d) "greatest_in" ["edges"] spGI := (ok_greatest_in E).mono (by omega)
    have c_parts_of : Cal P w K mg base (4 + d) "parts_of" ["edges"] spPO := (ok_parts_of E).mono (by omega)
    have c_below : Cal P w K mg base (4 + d) "below" ["edges", "priority"] spBl := (ok_below E).mono (by omega)
    refine Cal.of (k := 4 + d) E.f_Labelled E.g_labelled sc_labelled (fun _ _ _ _ _ _ us hl => match us, hl with | [_, _, _], _ => rfl) (fun vs H Q Ex h => ?_) (fun cdv A outer s H vs Q Ex hr h => ?_)
    · obtain ⟨F, g, v, D, l, b, rfl, _⟩ := h
      rfl
    · obtain ⟨F, g, v, D, l, b, rfl, s0, fD, hD, hg, I, sm, hpr, hd, hLG, hKS, hb1, hnd, hsub, hnon, k⟩ := h
      refine ⟨_, (pss_cons (ps_set (i := 3) sc_labelled.nd rfl (.inl rfl) (pe_cal c_greatest_in (hr.mono (by omega)) rfl (pa_cons (pv 0) pa_nil)))
      (pss_cons (ps_set (i := 4) sc_labelled.nd rfl (.inl rfl) (pv 1))
      (pss_cons (ps_for PassesOwn.never rfl (pi_listK (K := K) rfl (pe_cal c_parts_of (hr.mono (by omega)) rfl (pa_cons (pe_cal c_below (hr.mono (by omega)) rfl (pa_cons (pv 0) (pa_cons (pv 3) pa_nil))) pa_nil))) (pg_name (i := 5) sc_labelled.nd rfl (.inl rfl))
        (pss_one (ps_set (i := 4) sc_labelled.nd rfl (.inl rfl) (pe_callB (call_max2 rfl) (by rfl) E.n_max bt_max (pa_cons (pv 4) (pa_cons (pe_cal c_labelled (hr.mono (by omega)) rfl (pa_cons (pv 5) (pa_cons (pv 1) (pa_cons (pv 2) pa_nil)))) pa_nil))))))
      (pss_cons (ps_aug (i := 4) sc_labelled.nd rfl (.inl rfl) (pe_op op_mod (pe_op op_add (pv 4) (pv 3)) pe_int) ip_add)
      (pss_cons (ps_lock (ps_for PassesOwn.never rfl (pi_keys (pv 0)) (pg_name (i := 6) sc_labelled.nd rfl (.inl rfl))
        (pss_one (ps_for PassesOwn.never rfl (pi_listK (K := K) rfl (pe_dget (hu_of hr) (pv 0) (pv 6) (fun _ _ => rfl))) (pg_tupK (K := K) (n := 2) rfl rfl (pgs_cons (pg_name (i := 7) sc_labelled.nd rfl (.inl rfl)) (pgs_cons (pg_name (i := 8) sc_labelled.nd rfl (.inl rfl)) pgs_nil)))
          (pss_one (ps_if (pt_cmpR op_eq (pe_ix (ix_tupK (K := K) rfl) (pv 7) pe_int (fun _ _ => rfl)) (pv 3) (nomark _))
            (pss_one (ps_dput (hu_of hr) (pv 2) (pe_tup (pa_cons (pv 6) (pa_cons (pe_ix (ix_tupK (K := K) rfl) (pv 7) pe_int (fun _ _ => rfl)) pa_nil))) (pv 4) rfl))
            pss_nil))))))
      (pss_one (ps_ret (pv 4)))))))), ?_⟩
      have W0 := Wr.startO s0 fD hD (dLab_nt l)
      obtain ⟨ag, lg, rfl, hgF, hgk, hgn, hgp⟩ := id hg
      have hkeys : lg.map (·.1) = keys g := by rw [hgk, map_fst_pG]
      have hll : lg.length = g.length := by have := congrArg List.length hkeys; simpa using this
      refine w_seq (w_set W0 (P := isEx (fun M : Int => isV (.int M)) (GrOk g)) (ev_call W0.same (ea_cons (P := pG g) (ev_var rfl inferInstance hg) inferInstance ea_nil) fun F1 H1 vs Q1 g1 s1 hvs r1 => ?_) fun vT F1 H1 g1 W1 ⟨T, hG, eT⟩ => ?_)
      · cases hvs with
        | cons h1 hvs =>
          cases hvs
          exact ⟨F1, g, _, rfl, s1, h1, I.wf, sm, r1⟩
      obtain rfl : vT = .int T := eT
      obtain ⟨hT, T0, Td⟩ := isPart_gr I hpr hG
      dsimp only
      refine w_seq (w_set W1 (ev_varV rfl) fun vb F2 H2 g2 W2 eb => ?_)
      obtain rfl : vb = .int (b : Int) := eb
      have s02 := g1.fx.trans g2.fx
      have hg2 := (inferInstance : Mn (pG g)).mn s02 hg
      have Wb := bl_wf (t := T) I.wf
      have capb : cap (bl g T) ≤ 10000 := Nat.le_trans (sub_cap _ _ g) sm
      have hLGb : LG (bl g T) KS := hLG.sub fun u t v e => (bl_mem.mp e).1
      dsimp only
      refine w_seq (w_forEx (K := K) (Pa := fun gs : List (Gph Int) => isLst (gs.map pG)) (C := PartsOk (bl g T)) W2 (ev_call W2.same (ea_cons (P := pG (bl g T)) (ev_call W2.same (ea_cons (P := pG g) (ev_var rfl inferInstance hg2) inferInstance (ea_cons (ev_varV rfl) inferInstance ea_nil)) fun F3 H3 vs Q3 g3 s3 hvs r3 => ?_) inferInstance ea_nil) fun F3 H3 vs Q3 g3 s3 hvs r3 => ?_) fun gs vg F3 H3 hgs g3 W3 hvg => ?_)
      · cases hvs with
        | cons h1 hvs =>
          cases hvs with
          | cons h2 hvs =>
            cases hvs
            obtain rfl : _ = V.int T := h2
            exact ⟨F3, g, _, T, rfl, s3, h1, I.wf, sm, r3⟩
      · cases hvs with
        | cons h1 hvs =>
          cases hvs
          exact ⟨F3, bl g T, _, rfl, s3, h1, Wb, capb, r3⟩
      have hip := parts_isPart Wb hgs
      refine w_forLm (f := pG) (xs := gs) W3 (ev_lit inferInstance hvg) (fun _ => inferInstance) fun F4 H4 g4 W4 => ?_
      refine ⟨fun i σ' F' H' => ∃ (nb : Nat) (l' : LTab) (x5 : Option V), σ' = [some (.ref ag), some (.int (b : Int)), some (.ref D), some (.int T), some (.int ((b : Int) + (nb : Nat))), x5, none, none, none] ∧ Wr F (del H D) [(D, dLab l')] F' H' none ∧ LbI (gs.take i) KS b l l' nb,
        ⟨0, l, none, by rw [show (b : Int) + ((0 : Nat) : Int) = (b : Int) by omega]; rfl, W4, by rw [List.take_zero]; exact LbI.start hnd hsub⟩, ?_, ?_⟩
      · rintro i h vh σ' F' H' hi hvh sF ⟨nb, l', x5, rfl, W5, B⟩
        obtain ⟨Ih, hsb⟩ := hip h (List.mem_of_getElem? hi)
        have hvh : pG h F' vh := hvh
        have htk : gs.take (i + 1) = gs.take i ++ [h] := by rw [List.take_succ, hi]; rfl
        have dis := disj_at Wb hLGb hgs hi
        have noh : ∀ t, EdT h t → luk l' (tk t) = none := fun t ht => by
          rw [B.out _ fun h' hh t' ht' e => dis h' hh t' t ht' ht e]
          obtain ⟨u, v, e⟩ := ht
          exact hnon t ⟨u, v, (bl_mem.mp (hsb u t v e)).1⟩
        refine ⟨_, rfl, callO (Ps := [pG h, isV (.int b), isV (.ref D)]) (R := LabR h KS b l') W5 (j := 0) rfl (ea_cons (ev_var rfl inferInstance hvh) inferInstance (ea_cons (ev_varV rfl) inferInstance (ea_cons (ev_varV rfl) inferInstance ea_nil))) (fun F6 H6 vs Q6 sF6 s6 f6 h6 hvs r6 => ?_) fun v6 F6 H6 o6 s6 W6 ⟨l'', n, eo, hlb, ev⟩ => ?_⟩
        · cases hvs with
          | cons h1 hvs =>
            cases hvs with
            | cons h2 hvs =>
              cases hvs with
              | cons h3 hvs =>
                cases hvs
                obtain rfl : _ = V.int (b : Int) := h2
                obtain rfl : _ = V.ref D := h3
                refine ⟨F6, h, _, D, l', b, rfl, s6, f6, h6, h1, Ih, Nat.le_trans (parts_cap hgs h (List.mem_of_getElem? hi)) capb, fun u t v e => ?_, by omega, hLGb.sub hsb, hKS, hb1, B.nd, B.sub, noh, r6⟩
                obtain ⟨e1, e2⟩ := bl_mem.mp (hsb u t v e)
                have := hpr u t v e1
                omega
        · subst eo
          subst ev
          refine ⟨(b : Int) + (nb : Nat), (b : Int) + (n : Nat), rfl, F6, sF.trans s6, W6.sub, max nb n, l'', some vh, ?_, W6, ?_⟩
          · have : (if (b : Int) + (n : Nat) > (b : Int) + (nb : Nat) then (b : Int) + (n : Nat) else (b : Int) + (nb : Nat)) = (b : Int) + ((max nb n : Nat) : Int) := by
              rw [Nat.max_def]
              split <;> split <;> omega
            rw [this]
            rfl
          · rw [htk]
            exact B.step dis hlb
      · rintro σ' F' H' sF ⟨nb, l', x5, rfl, W5, B⟩
        rw [List.take_length] at B
        have er : (b : Int) + (nb : Nat) + ((b : Int) + (nb : Nat) + T) % 2 = (b : Int) + (rsd nb T (1 - b) : Nat) := by
          unfold rsd
          rcases (show b = 0 ∨ b = 1 by omega) with z | z
          · subst z
            split <;> omega
          · subst z
            split <;> omega
        dsimp only
        refine w_seq (w_aug W5 (a := (b : Int) + (nb : Nat)) (b := ((b : Int) + (nb : Nat) + T) % 2) rfl (ev_op ((ev_op (ev_varV rfl) (ev_varV rfl) inferInstance op_I0).is (w := .int ((b : Int) + (nb : Nat) + T)) rfl) ev_c inferInstance (op_I (by decide : (0 : Int) < 2))) fun F6 H6 g6 W6 => ?_)
        rw [er]
        generalize hbest : (b : Int) + (rsd nb T (1 - b) : Nat) = best
        have s06 : Same F F6 := ((s02.trans (g3.trans g4).fx).trans sF).trans g6.fx
        dsimp only
        refine w_seq (w_forK (l := lg) W6 rfl (s06 _ _ hgF) fun od W7 => ?_)
        refine ⟨fun i σ' F' H' => ∃ (l2 : LTab) (x6 x7 x8 : Option V), σ' = [some (.ref ag), some (.int (b : Int)), some (.ref D), some (.int T), some (.int best), x5, x6, x7, x8] ∧ Wr F (del H D) [(D, dLab l2)] F' H' (some (ag, od, Nd.dic lg)) ∧ (l2.map (·.1)).Nodup ∧ (∀ k ∈ l2.map (·.1), k ∈ KS) ∧
            (∀ t, Told g i 0 t → t.2.1 = T → luk l2 (tk t) = some best) ∧ (∀ k, (∀ t, EdT g t → t.2.1 = T → tk t ≠ k) → luk l2 k = luk l' k),
          ⟨l', none, none, none, rfl, W7, B.nd, B.sub, fun t ⟨i', j', u, es, v, h, _⟩ => by omega, fun _ _ => rfl⟩, ?_, ?_, ?_⟩
        · rintro i σ' F' H' ⟨l2, x6, x7, x8, rfl, W8, _⟩
          exact (W8.lk _ _ _ rfl).1
        · rintro i n wv vn σ' F' F8 H' hi sF7 ⟨l2, x6, x7, x8, rfl, W8, hn2, hs2, htop, hold⟩ g8 hvn
          obtain ⟨es, hgi⟩ : ∃ es, g[i]? = some (n, es) := by
            have h1 : (keys g)[i]? = some n := by rw [← hkeys, List.getElem?_map, hi]; rfl
            rw [List.getElem?_map] at h1
            cases q : g[i]? with
            | none => rw [q] at h1; cases h1
            | some p =>
              rw [q] at h1
              obtain ⟨m, es⟩ := p
              have e : m = n := Option.some.inj h1
              rw [e]
              exact ⟨es, rfl⟩
          have hnk : n ∈ keys g := List.mem_map.mpr ⟨_, List.mem_of_getElem? hgi, rfl⟩
          have hae : adj g n = es := adj_at I.wf hgi
          have W9 := W8.gro g8
          have hg9 : pG g F8 (.ref ag) := (inferInstance : Mn (pG g)).mn ((s06.trans sF7).trans g8.fx) hg
          obtain rfl : vn = .int n := hvn
          refine w_forLm (f := pE) (xs := es) W9 (by rw [← hae]; exact ev_adj (ev_var rfl inferInstance hg9) (ev_var (P := Nd.nd n) rfl inferInstance rfl) hnk) (fun _ => inferInstance) fun F10 H10 g10 W10 => ?_
          refine ⟨fun j σ'' F'' H'' => ∃ (l2 : LTab) (x7 x8 : Option V), σ'' = [some (.ref ag), some (.int (b : Int)), some (.ref D), some (.int T), some (.int best), x5, some (.int n), x7, x8] ∧ Wr F (del H D) [(D, dLab l2)] F'' H'' (some (ag, od, Nd.dic lg)) ∧ (l2.map (·.1)).Nodup ∧ (∀ k ∈ l2.map (·.1), k ∈ KS) ∧
              (∀ t, Told g i j t → t.2.1 = T → luk l2 (tk t) = some best) ∧ (∀ k, (∀ t, EdT g t → t.2.1 = T → tk t ≠ k) → luk l2 k = luk l' k),
            ⟨l2, x7, x8, rfl, W10, hn2, hs2, htop, hold⟩, ?_, ?_⟩
          · rintro j ⟨t, u⟩ ve σ'' F'' H'' hj hve sF10 ⟨l2, x7, x8, rfl, W11, hn2, hs2, htop, hold⟩
            have hadj : (t, u) ∈ adj g n := by rw [hae]; exact List.mem_of_getElem? hj
            have ht2 : t.2.2 = n := hLG.tn n t u hadj
            refine tg_tup2 W11.sub hve fun vt vu hvt hvu => ?_
            have hvt : pTag t F'' vt := hvt
            have told : ∀ t', Told g i (j + 1) t' → t' = t ∨ Told g i j t' := fun t' ⟨i', j', u', es', v', h1, h2, h3⟩ => by
              by_cases z : i' = i ∧ j' = j
              · obtain ⟨z1, z2⟩ := z
                subst z1 z2
                rw [hgi] at h2
                cases h2
                rw [hj] at h3
                cases h3
                exact .inl rfl
              · exact .inr ⟨i', j', u', es', v', by omega, h2, h3⟩
            have ix : ∀ {F1 H1 : Hp} {v1 v2 : V} (σ : L2.St), pTag t F1 v1 → σ[7]? = some (some v1) → EvP (tOp (rIxT K) (tVar 7) (tC (.int 1))) σ F1 H1 (isV (.int t.2.1)) ∧ EvP (tOp (rIxT K) (tVar 7) (tC (.int 0))) σ F1 H1 (isV (.str t.1)) := fun {F1 H1 v1 v2} σ h e =>
              ⟨ev_op (Pa := isTup [isV (.str t.1), isV (.int t.2.1), isV (.int t.2.2)]) (ev_var e inferInstance h) ev_c inferInstance (op_ixT (by rfl)), ev_op (Pa := isTup [isV (.str t.1), isV (.int t.2.1), isV (.int t.2.2)]) (ev_var e inferInstance h) ev_c inferInstance (op_ixT (by rfl))⟩
            refine w_if W11 (b := decide (V.int t.2.1 = V.int T)) (et_test (ev_op (ix (v2 := .non) _ hvt rfl).1 (ev_varV rfl) inferInstance (op_Eq rfl))) (fun hb F12 H12 g12 W12 => ?_) fun hb F12 H12 g12 W12 => ?_
            · have etT : t.2.1 = T := by have := of_decide_eq_true hb; injection this
              have hvt12 := (inferInstance : Mn (pTag t)).mn g12.fx hvt
              have hl2 : l2.length ≤ 1000 := by
                have := nd_len hn2 hs2
                rw [List.length_map] at this
                omega
              refine w_dput (N := LKey) W12 (j := 0) (n := ((n, t.1) : LKey)) (P := isV (.int best)) rfl (by rw [dLab_keys]; exact hn2) (by rw [List.length_map]; omega) (ev_varV rfl) (ev_tup (Ps := [isV (.int n), isV (.str t.1)]) (ea_cons (ev_varV rfl) inferInstance (ea_cons (ix (v2 := .non) _ hvt12 rfl).2 inferInstance ea_nil)) inferInstance) (ev_varV rfl) inferInstance fun vv F13 H13 g13 W13 ev => ?_
              obtain rfl : vv = .int best := ev
              have eput : putA (l2.map fun p => (p.1, V.int p.2)) ((n, t.1) : LKey) (V.int best) = (putA l2 (n, t.1) best).map fun p => (p.1, V.int p.2) := (put_map V.int l2 (n, t.1) best).symm
              rw [eput] at W13 ⊢
              have etk : tk t = (n, t.1) := by unfold tk; rw [ht2]
              refine ⟨F13, (sF10.trans g12.fx).trans g13.fx, W13.sub, putA l2 (n, t.1) best, _, _, rfl, W13, put_nodup hn2, fun k hk => ?_, fun t' ht' e' => ?_, fun k hk => ?_⟩
              · rw [put_ins, mem_ins] at hk
                rcases hk with z | z
                · exact hs2 k z
                · rw [z, ← etk]; exact hLG.ks t ⟨n, u, hadj⟩
              · rw [luk_put]
                by_cases z : (n, t.1) = tk t'
                · rw [if_pos z]
                · rw [if_neg z]
                  rcases told t' ht' with e | e
                  · subst e; exact absurd etk.symm z
                  · exact htop t' e e'
              · rw [luk_put, if_neg (fun z => hk t ⟨n, u, hadj⟩ etT (etk.trans z))]
                exact hold k hk
            · have etT : t.2.1 ≠ T := fun z => by
                have := of_decide_eq_false hb
                apply this
                rw [z]
              refine ⟨F12, sF10.trans g12.fx, W12.sub, l2, _, _, rfl, W12, hn2, hs2, fun t' ht' e' => ?_, hold⟩
              rcases told t' ht' with e | e
              · subst e; exact absurd e' etT
              · exact htop t' e e'
          · rintro σ'' F'' H'' sF10 ⟨l2, x7, x8, rfl, W11, hn2, hs2, htop, hold⟩
            refine ⟨F'', (sF7.trans g8.fx).trans (g10.fx.trans sF10), W11.sub, l2, _, _, _, rfl, W11, hn2, hs2, fun t ⟨i', j', u', es', v', h1, h2, h3⟩ e => ?_, hold⟩
            refine htop t ⟨i', j', u', es', v', ?_, h2, h3⟩ e
            rcases h1 with h1 | h1
            · rcases Nat.lt_succ_iff_lt_or_eq.mp h1 with z | z
              · exact .inl z
              · subst z
                rw [hgi] at h2
                cases h2
                exact .inr ⟨rfl, (List.getElem?_eq_some_iff.mp h3).1⟩
            · omega
        · rintro σ' F' H' sF7 ⟨l2, x6, x7, x8, rfl, W8, hn2, hs2, htop, hold⟩
          have W9 := W8.unlockF
          dsimp only
          refine w_ret W9 (ev_varV rfl) fun v10 F10 H10 g10 W10 e => ?_
          obtain rfl : v10 = .int best := e
          obtain ⟨q1, q2, q3, q4⟩ := W10.endO
          refine k _ F10 H10 _ q1 q2 q3 q4 ⟨l2, rsd nb T (1 - b), rfl, ?_, by rw [← hbest]⟩
          refine LbI.fin I hLG hT hgs hb1 B hnon hn2 hs2 (fun t ⟨u, v, e⟩ et => ?_) hold
          rw [hbest]
          have hu : u ∈ keys g := Ed.key ⟨t, e⟩
          obtain ⟨es, hl⟩ := luk_some hu
          obtain ⟨i, hi⟩ := List.getElem?_of_mem (luk_mem hl)
          have ha : adj g u = es := by unfold adj; rw [hl]; rfl
          rw [ha] at e
          obtain ⟨j, hj⟩ := List.getElem?_of_mem e
          exact htop t ⟨i, j, u, es, v, .inl (by rw [hll]; exact (List.getElem?_eq_some_iff.mp hi).1), hi, hj⟩ et
end
end EL

set_option Elab.async false
set_option linter.all false
set_option maxRecDepth 100000
set_option maxHeartbeats 1000000
/-! zip of a text and a tuple of its length -/
namespace EL
open PySem PySem.Spec PyProof.Rows L2

def ItzS (K : PySem.W.Frag) (x : Str) (b : Addr) : It :=
  ⟨fun i H => i < x.cps.size ∧ ∃ (ys : List V) (y : V), SqT K H b ys ∧ ys[i]? = some y,
    fun i H v H' => ∃ T c y, v = .ref T ∧ H T = none ∧ H' = upd H T (.tup [.str ⟨#[c]⟩, y]) ∧ x.cps[i]? = some c ∧ ∀ ys, SqT K H b ys → ys[i]? = some y,
    fun i H => x.cps.size ≤ i ∧ ∃ ys : List V, SqT K H b ys ∧ ys.length = x.cps.size⟩
theorem zsep {z TI TO i1 i2 b : Nat} (h1 : z = i1 + 4) (h2 : TI = i1 + 2) (h3 : TO = i1 + 3) (h4 : i2 = i1 + 1) (hb : b < i1) : ZipSep2 z TI TO i1 i2 [i1] [i2, b] := by
  subst h1 h2 h3 h4
  have a : ∀ k : Nat, i1 + k ≠ b := fun k => by omega
  have c : ∀ k l : Nat, k ≠ l → i1 + k ≠ i1 + l := fun k l h => by omega
  have d : ∀ k : Nat, k ≠ 0 → i1 + k ≠ i1 := fun k h => by omega
  have e : i1 ≠ i1 + 1 := by omega
  have f : i1 ≠ b := by omega
  exact ⟨c _ _ (by decide), c _ _ (by decide), c _ _ (by decide), d _ (by decide), by simp, by simpa using d _ (by decide), by simpa using d _ (by decide), c _ _ (by decide), by simp, by simpa using a 4, by simpa using a 3, by simpa using f, by simpa using d _ (by decide)⟩
theorem turn_zipS {P : Program} {w : World} {K : PySem.W.Frag} {elts : List Expr} {kk : Nat} {tpos : Pos} {x : Str} {tk : Tok} {b z TI TO i1 i2 : Addr} (S : ZipSep2 z TI TO i1 i2 [i1] [i2, b]) (hbi : b ≠ i2) :
    Turn P w K (.Tuple elts kk tpos) (ItzS K x b) [z, TI, TO, i1, i2] z (fun i h => i ≤ x.cps.size ∧ IsZip h z TI TO .none ∧ IsTupOf2 h TI (.ref i1) (.ref i2) ∧ (∃ x y, IsTupOf2 h TO x y) ∧ h.IsStrIter i1 (strIterType x) x tk i ∧ h.IsTupleIter i2 b i) where
  mem := by simp
  obj := fun i h st c hc => by
    obtain ⟨_, hz, hTI, ⟨x, y, hTO⟩, ⟨o1, e1, _, d1⟩, ⟨o2, e2, _, d2⟩⟩ := st
    have e' : c = z ∨ c = TI ∨ c = TO ∨ c = i1 ∨ c = i2 := by simpa using hc
    rcases e' with q | q | q | q | q
    · rw [q]; exact ⟨_, hz, fun v q => nomatch q⟩
    · rw [q]; exact ⟨_, hTI, fun v q => nomatch q⟩
    · rw [q]; exact ⟨_, hTO, fun v q => nomatch q⟩
    · rw [q]; exact ⟨o1, e1, fun v q => by rw [d1] at q; cases q⟩
    · rw [q]; exact ⟨o2, e2, fun v q => by rw [d2] at q; cases q⟩
  keep := fun i h h' st k => by
    obtain ⟨hi, hz, hTI, ⟨x, y, hTO⟩, ⟨o1, e1, r1⟩, h2⟩ := st
    exact ⟨hi, k z (by simp) _ hz, k TI (by simp) _ hTI, ⟨x, y, k TO (by simp) _ hTO⟩, ⟨o1, k i1 (by simp) _ e1, r1⟩, h2.at fun o q => k i2 (by simp) o q⟩
  item := by
    intro X hP hw hK hc i pins s σ H E I hf st hg
    subst hP hw hK
    obtain ⟨hi, hz, hTI, ⟨x0, y0, hTO⟩, h1, h2⟩ := st
    obtain ⟨hlt, ys, y, hqy, hy⟩ := hg
    obtain ⟨its2, rv2, p2, _⟩ := I.tuple hqy
    obtain ⟨u2, hu2, ru2⟩ := rv2.get hy
    have hzl : z < s.heap.objs.size := Heap.lt_size hz
    have hh : X.A.in1.handled = none := I.ok.hd hc
    have hl2 : i < its2.toArray.size := by
      have := (List.getElem?_eq_some_iff.mp hu2).1
      simpa using this
    refine wpAny_pyNext_zipD2_item S (Draws.text hh i1 x tk) (Draws.tuple hh i2 b hbi its2.toArray) hz hTI hTO h1 ⟨h2, p2⟩ hlt hl2 fun w1 w2 h' tk' hw1 hw2 z' TO' h1' h2' hT hsz hk => ?_
    obtain ⟨c, u, hc1, rfl⟩ := hw1
    have hw2' : u2 = w2 := by
      have hu3 : its2.toArray[i]? = some u2 := by simpa using hu2
      rw [hu3] at hw2; exact Option.some.inj hw2
    subst hw2'
    refine ⟨_, rfl, wpAny_letOwnedTupleGo_zip (s := { s with heap := h', toks := tk' }) z' fun h'' z'' sb => ?_⟩
    have hT2 : h''.get? s.heap.objs.size = some { cls := .type "tuple", data := .seq #[.str ⟨#[c]⟩ u, u2] } := (sb.2 _ (Nat.ne_of_gt hzl)).trans hT
    have new : ObjOk X.prog X.w (upd H s.heap.objs.size (.tup [.str ⟨#[c]⟩, y])) h'' s.heap.objs.size (.tup [.str ⟨#[c]⟩, y]) :=
      ⟨by show 2 ≤ sizeLine; decide, [.str ⟨#[c]⟩ u, u2], .cons ⟨u, rfl⟩ (.cons ru2 .nil), ⟨_, hT2, rfl, _, rfl⟩⟩
    have I1 : Inv X pins σ (upd H s.heap.objs.size (.tup [.str ⟨#[c]⟩, y])) { s with heap := h'', toks := tk' } :=
      I.turnedNew (t' := tk') (ch := [z, TI, TO, i1, i2]) (fun c o hb q => (sb.2 c (fun q' => hb (by simp [q']))).trans (hk c o (fun q' => hb (by simp [q'])) (fun q' => hb (by simp [q'])) (fun q' => hb (by simp [q'])) (fun q' => hb (by simp [q'])) q)) hf (Nat.le_refl _) new
    refine ⟨.ref s.heap.objs.size, _, I1, rfl, ⟨_, c, y, rfl, I.hok.fresh (Nat.le_refl _), rfl, hc1, fun l hl => by rw [I.tuple_inj hl hqy]; exact hy⟩, ⟨hlt, z'', ?_, ⟨.str ⟨#[c]⟩ u, u2, ?_⟩, ?_, ?_⟩, fun c hcm => ?_⟩
    · exact (sb.2 _ S.TIz).trans (hk _ _ S.TIz S.TITO S.TIi1 S.TIi2 hTI)
    · exact (sb.2 _ S.TOz).trans TO'
    · obtain ⟨o1, e1, r1⟩ := h1'
      exact ⟨o1, (sb.2 _ S.zi1.symm).trans e1, r1⟩
    · exact h2'.1.at fun o q => (sb.2 _ S.zi2.symm).trans q
    · have hlt : c < s.heap.objs.size := by
        have e' : c = z ∨ c = TI ∨ c = TO ∨ c = i1 ∨ c = i2 := by simpa using hcm
        rcases e' with q | q | q | q | q
        · rw [q]; exact hzl
        · rw [q]; exact Heap.lt_size hTI
        · rw [q]; exact Heap.lt_size hTO
        · rw [q]; obtain ⟨_, e1, _⟩ := h1; exact Heap.lt_size e1
        · rw [q]; obtain ⟨_, e2, _⟩ := h2; exact Heap.lt_size e2
      rw [upd_ne (Nat.ne_of_lt hlt)]
      exact (hf c hcm).1
  done := by
    intro X hP hw hK hc i pins s σ H E I hf st hg
    subst hP hw hK
    obtain ⟨hi, hz, hTI, ⟨x0, y0, hTO⟩, h1, h2⟩ := st
    obtain ⟨hle, ys, hqy, hyl⟩ := hg
    obtain ⟨its2, rv2, p2, _⟩ := I.tuple hqy
    have l2 := rv2.length
    have hie : i = x.cps.size := by omega
    have hh : X.A.in1.handled = none := I.ok.hd hc
    refine wpAny_pyNext_zipD2_end S (Draws.text hh i1 x tk) (Draws.tuple hh i2 b hbi its2.toArray) hz hTI hTO h1 ⟨h2, p2⟩ hi (by rw [List.size_toArray]; omega) (.inl hie) fun h' tk' hk => ⟨rfl, I.turnedL (t' := tk') (ch := [z, TI, TO, i1, i2]) (fun c o hb q =>
      hk c o (fun q' => hb (by simp [q'])) (fun q' => hb (by simp [q'])) (fun q' => hb (by simp [q'])) (fun q' => hb (by simp [q'])) q) hf⟩
  self := fun A i s Q E st h => wpAny_pyIter_zip st.2.1 h

def iZipS (K : PySem.W.Frag) (ta : TA) : TI := fun σ H R => ta σ H fun vs H1 => ∃ x b ys, vs = [.str x, .ref b] ∧ SqT K H1 b ys ∧ R (ItzS K x b) H1
theorem pi_zipS {X : Cx} {e e2 : Expr} {ta : TA} {p pos tpos : Pos} {elts : List Expr} {kk : Nat} (hg : Gl X "zip") (hm : X.mg "zip" = none) (ha : PA X [e, e2] ta)
    (hs : starEach [e, e2] X.env = (false, eval e X.env) :: starEach [e2] X.env := by rfl) (hpl : (backTo pos (starEach [e2] X.env)).any (·.1) = false := by rfl) :
    PI X (.Tuple elts kk tpos) (.Call (.Name "zip" p) [e, e2] [] pos) (iZipS X.K ta) := by
  refine ⟨fun pins s σ H R I h => ?_⟩
  refine Call_ (ld_blt I hg hm PyProof.Rows.boot_zip (PyProof.Rows.callWith_type1 (thn (ha.run pos pins s σ H _ I h) fun us s1 ⟨vs, H1, I1, r1, q1⟩ => ?_) hs hpl))
  obtain ⟨x, b, ys, ex, hqy, q⟩ := q1
  subst ex
  cases r1 with
  | cons r rr =>
    cases rr with
    | cons r' rr =>
      cases rr
      obtain ⟨k, rfl⟩ := r
      cases r'
      have fresh5 : ∀ c, c ∈ [s1.heap.objs.size + 4, s1.heap.objs.size + 2, s1.heap.objs.size + 3, s1.heap.objs.size, s1.heap.objs.size + 1] → FpOk X pins H1 c := fun c hcm => by
        have hle : s1.heap.objs.size ≤ c := by
          simp only [List.mem_cons, List.not_mem_nil, or_false] at hcm
          rcases hcm with z | z | z | z | z <;> rw [z]
          · exact Nat.le_add_right _ _
          · exact Nat.le_add_right _ _
          · exact Nat.le_add_right _ _
          · exact Nat.le_refl _
          · exact Nat.le_add_right _ _
        exact I1.fpOk hle (I1.hok.fresh hle)
      obtain ⟨its2, rv2, p2, _⟩ := I1.tuple hqy
      obtain ⟨o2, ho2, _⟩ := id p2
      refine zip_begins2 (begins_text x k) (begins_tuple b its2.toArray) trivial p2 fun h' hz hTI hTO h1 h2 hsz hk => wpAny_pyIter_zip hz ?_
      have I2 : Inv X pins σ H1 { s1 with heap := h' } := I1.kept (t' := s1.toks) hk
      have hbl := Heap.lt_size ho2
      exact ⟨s1.heap.objs.size + 4, [s1.heap.objs.size + 4, s1.heap.objs.size + 2, s1.heap.objs.size + 3, s1.heap.objs.size, s1.heap.objs.size + 1], _, _, H1, rfl, I2, turn_zipS (tk := k) (zsep rfl rfl rfl rfl hbl) (Nat.ne_of_lt (Nat.lt_succ_of_lt hbl)), ⟨Nat.zero_le _, hz, hTI, ⟨_, _, hTO⟩, ⟨_, h1, rfl, rfl⟩, ⟨_, h2, rfl, rfl⟩⟩, fresh5, q⟩
/-- the pairs it gives -/
def pZip (x : Str) {α : Type} (f : α → Pr) (i : Nat) (a : α) : Pr := isTup [isV (.str ⟨#[x.cps.getD i 0]⟩), f a]
theorem ei_zipS {K : PySem.W.Frag} {α : Type} {σ : L2.St} {F H : Hp} {k : Lk} {ta : TA} {xs : List α} {f : α → Pr} {x : Str} (h : EvA ta σ F H [isV (.str x), isTupD (xs.map f)]) (hl : xs.length = x.cps.size) (m : ∀ x, Mn (f x)) : EvI (iZipS K ta) σ F H k xs (pZip x f) := fun F1 H1 g s R q =>
  h F1 H1 g s _ fun vs F2 H2 g2 hp => by
    cases hp with
    | cons hx hp =>
      cases hp with
      | cons hp hn =>
        cases hn
        obtain rfl := hx
        obtain ⟨a, o, vs, rfl, hF, hd, hp⟩ := hp
        have s2 := s.gr g2
        have e3 := hp.length
        rw [List.length_map] at e3
        refine ⟨x, a, vs, rfl, SqT.ofD (s2.tupD hF), q _ F2 H2 g2 ⟨fun i F' H' hh hi => ?_, fun i F' H' hh hi => ?_, fun i F' H' v H'' hh hy hi => ?_⟩⟩
        · have hl2 : SqT K H' a vs := SqT.ofD (hh.2.1.tupD (hh.1 _ _ hF))
          exact ⟨by omega, vs, vs[i]'(by omega), hl2, by simp⟩
        · have hl2 : SqT K H' a vs := SqT.ofD (hh.2.1.tupD (hh.1 _ _ hF))
          exact ⟨by omega, vs, hl2, by omega⟩
        · have hl2 : SqT K H' a vs := SqT.ofD (hh.2.1.tupD (hh.1 _ _ hF))
          obtain ⟨T, c, w, rfl, hT, rfl, hc, hx⟩ := hy
          have hv : vs[i]? = some w := hx vs hl2
          obtain ⟨y, h1, h2⟩ := hp.mapV hv
          have fT := hh.2.1.free hT
          refine ⟨y, _, h1, Gr.newF hT fT, T, _, rfl, upd_same, .cons ?_ (.cons ?_ .nil)⟩
          · show V.str _ = V.str _
            rw [Array.getD_eq_getD_getElem?, hc]; rfl
          · exact (m y).mn (hh.1.trans (same_new fT)) h2
end EL

set_option Elab.async false
set_option linter.all false
set_option maxRecDepth 100000
set_option maxHeartbeats 1000000
/-! the relabelled machine. Plain. -/
namespace EL
open PySem
def relRow (ls : List Nat) (l : LTab) (b : Int) (i : Nat) (r : List Pt) : List Pt := r.mapIdx fun j p => (p.1, (luk l ((i : Int), sg (ls.getD j 0))).getD b)
def relM (m : Mach) (l : LTab) (b : Int) : Mach := { al := m.al, tab := m.tab.mapIdx (relRow m.ls l b), st := m.st }
def Low (m : Mach) (d : Int) : Prop := ∀ r ∈ m.tab, ∀ p ∈ r, p.2 ≤ d
structure Rel (m m' : Mach) : Prop where
  al : m'.al = m.al
  ok : MOk m'
  st : m'.st = m.st
  tl : m'.tab.length = m.tab.length
  tg : ∀ (s : Int) (c : Nat), 0 ≤ s → s < m.tab.length → c ∈ m.ls → (stp m' s c).1 = (stp m s c).1
  low : Low m 2 → Low m' 2
  par : ∀ q w, MR m q → w ≠ [] → (∀ c ∈ w, c ∈ m.ls) → run m q w = q → rmx m' q 0 w % 2 = rmx m q 0 w % 2
section
variable {m : Mach} (ok : MOk m)
include ok
theorem MOk.row {s : Int} (h0 : 0 ≤ s) (h1 : s < m.tab.length) : ∃ r, m.tab[s.toNat]? = some r ∧ r ∈ m.tab ∧ m.tab.getD s.toNat [] = r := by
  have hl : s.toNat < m.tab.length := by omega
  exact ⟨m.tab[s.toNat], List.getElem?_eq_getElem hl, List.getElem_mem hl, by rw [List.getD_eq_getElem?_getD, List.getElem?_eq_getElem hl]; rfl⟩
theorem rel_stp (l : LTab) (b : Int) {s : Int} {c : Nat} (h0 : 0 ≤ s) (h1 : s < m.tab.length) (hc : c ∈ m.ls) :
    stp (relM m l b) s c = ((stp m s c).1, (luk l (s, sg c)).getD b) := by
  obtain ⟨r, hr, hm, hd⟩ := ok.row h0 h1
  have e1 : (relM m l b).tab.getD s.toNat [] = relRow m.ls l b s.toNat r := by
    show (m.tab.mapIdx _).getD _ _ = _
    rw [List.getD_eq_getElem?_getD, List.getElem?_mapIdx, hr]; rfl
  have hi : m.ls.idxOf c < m.ls.length := List.idxOf_lt_length_of_mem hc
  have hir : m.ls.idxOf c < r.length := by rw [ok.wd r hm]; exact hi
  unfold stp
  have els : (relM m l b).ls = m.ls := rfl
  rw [e1, hd, els]
  unfold relRow
  rw [List.getD_eq_getElem?_getD, List.getElem?_mapIdx, List.getElem?_eq_getElem hir, List.getD_eq_getElem?_getD (l := r), List.getElem?_eq_getElem hir]
  show (_, _) = (_, _)
  have e2 : m.ls.getD (m.ls.idxOf c) 0 = c := by
    rw [List.getD_eq_getElem?_getD, List.getElem?_eq_getElem hi]
    show m.ls[m.ls.idxOf c] = c
    exact List.getElem_idxOf hi
  rw [e2, Int.toNat_of_nonneg h0]
  rfl
end
/-- the tags along a word -/
def tgs (m : Mach) (q : Int) : List Nat → List Tag
  | [] => []
  | c :: r => (sg c, (stp m q c).2, q) :: tgs m (stp m q c).1 r
theorem wk_tgs {m : Mach} {g : Gph Int} (M : MEOk m g) : ∀ {q : Int} {w : List Nat}, MR m q → (∀ c ∈ w, c ∈ m.ls) → Wk g q (tgs m q w) (run m q w)
  | q, [], _, _ => .nil q
  | q, c :: r, hq, hw => by
    have hc := hw c List.mem_cons_self
    refine .cons (v := (stp m q c).1) ?_ (wk_tgs M (hq.step hc) fun d hd => hw d (List.mem_cons_of_mem _ hd))
    rw [M.ad q ((M.ks q).mpr hq)]
    exact List.mem_map.mpr ⟨c, hc, rfl⟩
/-- the greatest of a word -/
theorem rmx_eq {m : Mach} {f : Tag → Int} : ∀ {q g M : Int} {w : List Nat} (hf : ∀ t ∈ tgs m q w, f t ≤ M) (hg : g ≤ M) (ha : g = M ∨ ∃ t ∈ tgs m q w, f t = M) (m' : Mach) (he : ∀ p c, (sg c, (stp m p c).2, p) ∈ tgs m q w → c ∈ w → (stp m' p c).1 = (stp m p c).1 ∧ (stp m' p c).2 = f (sg c, (stp m p c).2, p)), rmx m' q g w = M
  | q, g, M, [], hf, hg, ha, m', he => by
    rcases ha with z | ⟨t, h, _⟩
    · exact z
    · cases h
  | q, g, M, c :: r, hf, hg, ha, m', he => by
    obtain ⟨e1, e2⟩ := he q c List.mem_cons_self List.mem_cons_self
    show rmx m' (stp m' q c).1 (max g (stp m' q c).2) r = M
    rw [e1, e2]
    have h1 := hf _ (List.mem_cons_self (a := (sg c, (stp m q c).2, q)) (l := tgs m (stp m q c).1 r))
    refine rmx_eq (m := m) (f := f) (fun t ht => hf t (List.mem_cons_of_mem _ ht)) (by omega) ?_ m' fun p d hp hd => he p d (List.mem_cons_of_mem _ hp) (List.mem_cons_of_mem _ hd)
    rcases ha with z | ⟨t, h, z⟩
    · left; omega
    · rcases List.mem_cons.mp h with y | y
      · subst y; left; omega
      · right; exact ⟨t, y, z⟩
/-- a chain on low priorities is short -/
theorem chn_bound {g : Gph Int} {n : Nat} {d : Int} (hp : ∀ u t v, (t, v) ∈ adj g u → 0 ≤ t.2.1 ∧ t.2.1 ≤ d) (h : Chn g 1 n) (hd : 0 ≤ d) : (n : Int) ≤ d := by
  rcases h with e | ⟨q, ts, c⟩
  · omega
  · have key : ∀ i, i < n → (i : Int) + 1 ≤ ts i := by
      intro i
      induction i with
      | zero =>
        intro hi
        obtain ⟨⟨tg, hw, ⟨x, hx, ex⟩, _⟩, hpar, _⟩ := c 0 hi
        obtain ⟨a, b, he, _⟩ := hw.edge x hx
        have := (hp a x b he).1
        omega
      | succ i ih =>
        intro hi
        have h1 := ih (by omega)
        have h2 := (c i (by omega)).2.2 hi
        have := h1
        omega
    by_cases z : n = 0
    · omega
    · obtain ⟨⟨tg, hw, ⟨x, hx, ex⟩, _⟩, _⟩ := c (n - 1) (by omega)
      have h1 := key (n - 1) (by omega)
      obtain ⟨a, b, he, _⟩ := hw.edge x hx
      have := (hp a x b he).2
      omega
theorem MEOk.sub {m : Mach} {g g' : Gph Int} (M : MEOk m g) (M' : MEOk m g') : ∀ u t v, (t, v) ∈ adj g u → (t, v) ∈ adj g' u := fun u t v e => by
  have hu : u ∈ keys g := Ed.key ⟨t, e⟩
  rw [M.ad u hu] at e
  rw [M'.ad u ((M'.ks u).mpr ((M.ks u).mp hu))]
  exact e
theorem LenOk.eq {m : Mach} {g g' : Gph Int} (M : MEOk m g) (M' : MEOk m g') {inner n n' : Nat} (h : LenOk g inner n) (h' : LenOk g' inner n') : n = n' := by
  have h1 := h'.2 _ (h.1.mono (M.sub M'))
  have h2 := h.2 _ (h'.1.mono (M'.sub M))
  omega
def relK (m : Mach) : List LKey := (List.range m.tab.length).flatMap fun (i : Nat) => m.ls.map fun c => (((i : Nat) : Int), sg c)
section
variable {m : Mach} {g : Gph Int} (ok : MOk m) (M : MEOk m g)
include ok M
theorem MEOk.lg : LG g (relK m) := by
  refine ⟨fun u t v e => ?_, fun t t' ⟨u, v, e⟩ ⟨u', v', e'⟩ ek => ?_, fun t ⟨u, v, e⟩ => ?_⟩
  · obtain ⟨_, c, _, e1, _⟩ := M.edge ok e
    rw [e1]
  · obtain ⟨_, c, _, e1, _⟩ := M.edge ok e
    obtain ⟨_, c', _, e1', _⟩ := M.edge ok e'
    rw [e1, e1'] at ek ⊢
    have h1 : u = u' := congrArg Prod.fst ek
    have h2 : sg c = sg c' := congrArg Prod.snd ek
    rw [h1, sg_inj h2]
  · obtain ⟨hr, c, hc, e1, _⟩ := M.edge ok e
    have hr := hr.rng ok
    rw [e1]
    refine List.mem_flatMap.mpr ⟨u.toNat, List.mem_range.mpr (by omega), List.mem_map.mpr ⟨c, hc, ?_⟩⟩
    show (((u.toNat : Nat) : Int), sg c) = (u, sg c)
    rw [Int.toNat_of_nonneg hr.1]
theorem relK_len : (relK m).length ≤ 9 := by
  have h3 := (alph_size ok.al).2
  have hl : m.ls.length ≤ 3 := by
    show m.al.cps.toList.length ≤ 3
    rw [Array.length_toList]; exact h3
  unfold relK
  rw [List.length_flatMap]
  have : ((List.range m.tab.length).map fun (i : Nat) => (m.ls.map fun c => (((i : Nat) : Int), sg c)).length) = (List.range m.tab.length).map fun _ => m.ls.length := by
    refine List.map_congr_left fun i _ => by rw [List.length_map]
  rw [this, List.map_const', List.sum_replicate_nat, List.length_range]
  exact Nat.mul_le_mul ok.t2 hl
/-- the relabelled machine is one -/
theorem rel_of {gs : List (Gph Int)} (P : PartsOk g gs) {b nb e o : Nat} {l : LTab} (B : LbI gs (relK m) b [] l nb) (he : LenOk g 0 e) (ho : LenOk g 1 o) (hb : b = if e < o then 1 else 0) : Rel m (relM m l b) := by
  have W := M.wf ok
  have hb1 : b ≤ 1 := by rw [hb]; split <;> omega
  have hnb : LenOk g (1 - b) nb := LenOk.parts W P B.best.b B.best.m
  have hbd : ∀ d : Int, 0 ≤ d → Low m d → ((b + nb : Nat) : Int) ≤ max d 1 ∧ (d ≥ 1 ∨ nb = 0 ∧ b = 0) := fun d hd hlow => by
    have hp : ∀ u t v, (t, v) ∈ adj g u → 0 ≤ t.2.1 ∧ t.2.1 ≤ d := fun u t v ed => by
      obtain ⟨hr, c, hc, e1, _⟩ := M.edge ok ed
      have hr := hr.rng ok
      have := stp_rng ok hr.1 hr.2 hc
      refine ⟨by rw [e1]; exact this.2.2.1, ?_⟩
      rw [e1]
      obtain ⟨r, h1, h2, h3⟩ := ok.row hr.1 hr.2
      show (stp m u c).2 ≤ d
      unfold stp
      rw [h3]
      have hi : m.ls.idxOf c < r.length := by rw [ok.wd r h2]; exact List.idxOf_lt_length_of_mem hc
      rw [List.getD_eq_getElem?_getD, List.getElem?_eq_getElem hi]
      exact hlow r h2 _ (List.getElem_mem hi)
    have h1 := chn_bound hp ho.1 hd
    by_cases z : e < o
    · rw [if_pos z] at hb
      subst hb
      have : nb = e := LenOk.eq M M hnb he
      exact ⟨by omega, by omega⟩
    · rw [if_neg z] at hb
      subst hb
      have : nb = o := LenOk.eq M M hnb ho
      exact ⟨by omega, by omega⟩
  have hlb : ∀ k : LKey, (b : Int) ≤ (luk l k).getD b ∧ (luk l k).getD b ≤ b + nb := fun k => by
    by_cases z : ∃ h ∈ gs, ∃ t, EdT h t ∧ tk t = k
    · obtain ⟨h, hh, t, ht, rfl⟩ := z
      exact B.rng h hh t ht
    · have : luk l k = none := B.out k fun h hh t ht ek => z ⟨h, hh, t, ht, ek⟩
      rw [this]
      show (b : Int) ≤ b ∧ (b : Int) ≤ b + nb
      omega
  have hlow : ∀ d : Int, 1 ≤ d → Low m d → Low (relM m l b) d := fun d hd hm r hr p hp => by
    obtain ⟨i, hi⟩ := List.getElem?_of_mem hr
    have hi : (m.tab.mapIdx (relRow m.ls l b))[i]? = some r := hi
    rw [List.getElem?_mapIdx] at hi
    cases q : m.tab[i]? with
    | none => rw [q] at hi; cases hi
    | some r0 =>
      rw [q] at hi
      cases hi
      obtain ⟨j, hj⟩ := List.getElem?_of_mem hp
      unfold relRow at hj
      rw [List.getElem?_mapIdx] at hj
      cases q2 : r0[j]? with
      | none => rw [q2] at hj; cases hj
      | some p0 =>
        rw [q2] at hj
        cases hj
        have h1 := (hlb ((i : Int), sg (m.ls.getD j 0))).2
        have h2 := (hbd d (by omega) hm).1
        show (luk l _).getD _ ≤ d
        omega
  have els : (relM m l b).ls = m.ls := rfl
  refine ⟨rfl, ⟨ok.al, ?_, ?_, ?_, ?_, ok.s1, ?_⟩, rfl, ?_, fun s c h0 h1 hc => by rw [rel_stp ok l b h0 h1 hc], hlow 2 (by decide), fun q w hq hne hw hrun => ?_⟩
  · show 1 ≤ (m.tab.mapIdx _).length
    rw [List.length_mapIdx]; exact ok.t1
  · show (m.tab.mapIdx _).length ≤ 3
    rw [List.length_mapIdx]; exact ok.t2
  · intro r hr
    obtain ⟨i, hi⟩ := List.getElem?_of_mem hr
    have hi : (m.tab.mapIdx (relRow m.ls l b))[i]? = some r := hi
    rw [List.getElem?_mapIdx] at hi
    cases q : m.tab[i]? with
    | none => rw [q] at hi; cases hi
    | some r0 =>
      rw [q] at hi
      cases hi
      unfold relRow
      rw [List.length_mapIdx, els]
      exact ok.wd r0 (List.mem_of_getElem? q)
  · intro r hr p hp
    have h3 := hlow 3 (by decide) (fun r hr p hp => (ok.rg r hr p hp).2.2.2) r hr p hp
    obtain ⟨i, hi⟩ := List.getElem?_of_mem hr
    have hi : (m.tab.mapIdx (relRow m.ls l b))[i]? = some r := hi
    rw [List.getElem?_mapIdx] at hi
    cases q : m.tab[i]? with
    | none => rw [q] at hi; cases hi
    | some r0 =>
      rw [q] at hi
      cases hi
      obtain ⟨j, hj⟩ := List.getElem?_of_mem hp
      unfold relRow at hj
      rw [List.getElem?_mapIdx] at hj
      cases q2 : r0[j]? with
      | none => rw [q2] at hj; cases hj
      | some p0 =>
        rw [q2] at hj
        cases hj
        have h1 := (hlb ((i : Int), sg (m.ls.getD j 0))).1
        have h2 := ok.rg r0 (List.mem_of_getElem? q) p0 (List.mem_of_getElem? q2)
        refine ⟨h2.1, ?_, ?_, h3⟩
        · show p0.1 < ((m.tab.mapIdx _).length : Int)
          rw [List.length_mapIdx]; exact h2.2.1
        · show 0 ≤ (luk l _).getD _
          omega
  · show m.st < ((m.tab.mapIdx _).length : Int)
    rw [List.length_mapIdx]; exact ok.s2
  · show (m.tab.mapIdx _).length = _
    rw [List.length_mapIdx]
  · have hwk := wk_tgs M hq hw
    rw [hrun] at hwk
    have tne : tgs m q w ≠ [] := by
      cases w with
      | nil => exact absurd rfl hne
      | cons c r => intro z; cases z
    obtain ⟨h, hh, hwh⟩ := hwk.part W P tne
    obtain ⟨x, hx, hmx, z, hz, hmz, hpar⟩ := B.par h hh q _ hwh tne
    have info : ∀ t ∈ tgs m q w, ∃ p c, t = (sg c, (stp m p c).2, p) ∧ 0 ≤ p ∧ p < m.tab.length ∧ c ∈ m.ls := fun t ht => by
      obtain ⟨a, y, he', _⟩ := hwk.edge t ht
      obtain ⟨hr, c, hc, e1, _⟩ := M.edge ok he'
      exact ⟨a, c, e1, (hr.rng ok).1, (hr.rng ok).2, hc⟩
    have n1 : ∀ t ∈ tgs m q w, 0 ≤ t.2.1 := fun t ht => by
      obtain ⟨p, c, rfl, h0, h1, hc⟩ := info t ht
      exact (stp_rng ok h0 h1 hc).2.2.1
    have r1 : rmx m q 0 w = x.2.1 := rmx_eq (m := m) (f := fun t => t.2.1) (M := x.2.1) hmx (n1 x hx) (.inr ⟨x, hx, rfl⟩) m fun p c _ _ => ⟨rfl, rfl⟩
    have r2 : rmx (relM m l b) q 0 w = lb l b z := by
      refine rmx_eq (m := m) (f := lb l b) (M := lb l b z) hmz (by have := (hlb (tk z)).1; unfold lb; omega) (.inr ⟨z, hz, rfl⟩) _ fun p c hp hcw => ?_
      obtain ⟨p', c', e1, h0, h1, hc⟩ := info _ hp
      have ep : p = p' := congrArg (fun t : Tag => t.2.2) e1
      have ec : c = c' := sg_inj (congrArg (fun t : Tag => t.1) e1)
      subst ep
      subst ec
      rw [rel_stp ok l b h0 h1 hc]
      exact ⟨rfl, rfl⟩
    rw [r1, r2]
    omega
end
end EL

set_option Elab.async false
set_option linter.all false
set_option maxRecDepth 100000
set_option maxHeartbeats 2000000
namespace EL
open PySem PySem.Spec PyProof.Rows L2
theorem pi_zipSK {K : PySem.W.Frag} {X : Cx} (h : X.K = K) {e e2 : Expr} {ta : TA} {p pos tpos : Pos} {elts : List Expr} {kk : Nat} (hg : Gl X "zip") (hm : X.mg "zip" = none) (ha : PA X [e, e2] ta)
    (hs : starEach [e, e2] X.env = (false, eval e X.env) :: starEach [e2] X.env := by rfl) (hpl : (backTo pos (starEach [e2] X.env)).any (·.1) = false := by rfl) :
    PI X (.Tuple elts kk tpos) (.Call (.Name "zip" p) [e, e2] [] pos) (iZipS K ta) := by subst h; exact pi_zipS hg hm ha hs hpl
theorem isDct_isD {o : HO} {H : Hp} {d : Addr} (h : isDct o = true) (e : H d = some o) : IsD H d := by
  cases o with
  | dK kvs => exact .inl ⟨kvs, .inl e⟩
  | dT kvs => exact .inr ⟨kvs, .inl e⟩
  | _ => cases h
theorem tg_tup12 {K : PySem.W.Frag} {σ : L2.St} {F H : Hp} {i j l : Nat} {y : V} {P1 P2 P3 : Pr} {Q : L2.St → Hp → Prop} (s : Sub F H) (h : isTup [P1, isTup [P2, P3]] F y) (c : ∀ v1 v2 v3, P1 F v1 → P2 F v2 → P3 F v3 → Q (((σ.set i (some v1)).set j (some v2)).set l (some v3)) H) :
    gTup K 2 (gCons (gName i) (gCons (gTup K 2 (gCons (gName j) (gCons (gName l) gNil))) gNil)) y σ H Q := by
  obtain ⟨a, vs, rfl, ha, hp⟩ := h
  cases hp with
  | cons p1 hp =>
    cases hp with
    | cons p2 hp =>
      cases hp
      refine ⟨a, _, rfl, SqT.of (s.tup ha), rfl, _, _, rfl, _, _, rfl, ?_⟩
      exact tg_tup2 (P1 := P2) (P2 := P3) s p2 fun v2 v3 h2 h3 => ⟨rfl, c _ _ _ p1 h2 h3⟩
/-- d.get(k, x) of a dict of one's own -/
theorem ev_dget2O {N : Type} [DecidableEq N] [Nd N] {σ : L2.St} {F H : Hp} {ta ty tx : TE} {d : Addr} {l : List (N × V)} {n : N} {z : V} (h : H d = some (Nd.dic l)) (hd : EvP ta σ F H (isV (.ref d))) (hy : EvP ty σ F H (Nd.nd n)) (hx : EvP tx σ F H (isV z)) : EvP (tDGet2 ta ty tx) σ F H (isV ((luk l n).getD z)) := fun F1 H1 g s Q q =>
  hd F1 H1 g s _ fun x F2 H2 g2 e => by
    obtain rfl : x = _ := e
    have hH2 := (g.trans g2).ex _ _ h
    refine ⟨d, rfl, ?_, hy F2 H2 (g.trans g2) (s.gr g2) _ fun y F3 H3 g3 py => hx F3 H3 ((g.trans g2).trans g3) ((s.gr g2).gr g3) _ fun x4 F4 H4 g4 e4 => ?_⟩
    · exact isDct_isD (Nd.dct l) hH2
    · obtain rfl : x4 = _ := e4
      have hH := (((g.trans g2).trans g3).trans g4).ex _ _ h
      exact ⟨_, Nd.get (.inl hH) (((s.gr g2).gr g3).gr g4) ((Nd.mnd n).mn g4.fx py), q _ F4 H4 ((g2.trans g3).trans g4) rfl⟩
/-- int(x > y) of two counts -/
theorem op_GtEx {C1 C2 : Nat → Prop} {F H : Hp} : OpP (rI0 fun i j => .bl (decide (i > j))) (isEx (fun n : Nat => isV (.int (n : Nat))) C1) (isEx (fun n : Nat => isV (.int (n : Nat))) C2) (isEx (fun p : Nat × Nat => isV (.bl (decide (p.1 > p.2)))) fun p => C1 p.1 ∧ C2 p.2) F H := fun F1 H1 x y g s ⟨a, ca, ea⟩ ⟨b, cb, eb⟩ Q q => by
  obtain rfl : x = .int (a : Int) := ea
  obtain rfl : y = .int (b : Int) := eb
  refine ⟨_, _, rfl, rfl, q _ F1 H1 Gr.refl ⟨(a, b), ⟨ca, cb⟩, ?_⟩⟩
  show V.bl _ = V.bl _
  congr 1
  by_cases z : a > b
  · rw [decide_eq_true z, decide_eq_true (by omega)]
  · rw [decide_eq_false z, decide_eq_false (by omega)]
theorem ca_intEx {α : Type} {f : α → Bool} {C : α → Prop} {F H : Hp} : CaP (fun xs H Q => (∃ i, xs = [V.int i] ∧ Q (.int i) H) ∨ ∃ k, xs = [.bl k] ∧ Q (.int (if k then 1 else 0)) H) [isEx (fun p => isV (.bl (f p))) C] (isEx (fun p => isV (.int (if f p then 1 else 0))) C) F H := fun F1 H1 vs g s hp Q q => by
  cases hp with
  | cons h hp =>
    cases hp
    obtain ⟨p, cp, e⟩ := h
    obtain rfl : _ = V.bl (f p) := e
    exact .inr ⟨_, rfl, q _ F1 H1 Gr.refl ⟨p, cp, rfl⟩⟩
theorem LenOk.to {m : Mach} {g g' : Gph Int} (M : MEOk m g) (M' : MEOk m g') {inner n : Nat} (h : LenOk g inner n) : LenOk g' inner n := ⟨h.1.mono (M.sub M'), fun k hk => h.2 k (hk.mono (M'.sub M))⟩
theorem luk_mapR {N α β : Type} [DecidableEq N] (f : α → β) : ∀ (l : List (N × α)) (n : N), luk (l.map fun p => (p.1, f p.2)) n = (luk l n).map f
  | [], _ => rfl
  | p :: r, n => by
    show (if p.1 = n then some (f p.2) else luk (r.map fun p => (p.1, f p.2)) n) = (if p.1 = n then some p.2 else luk r n).map f
    by_cases e : p.1 = n
    · rw [if_pos e, if_pos e]; rfl
    · rw [if_neg e, if_neg e]; exact luk_mapR f r n
def spRel (K : PySem.W.Frag) : Sp := fun vs H Q _ => ∃ (F : Hp) (m : Mach) (v : V), vs = [v] ∧ Same F H ∧ pM K m F v ∧ MOk m ∧ Ret F H (isEx (pM K) (Rel m)) Q
theorem sc_relabel : FnScope ["machine", "base", "labels", "inside", "states", "number", "state", "row", "letter", "target", "priority"] ["machine"] (defScope sRelabel) := ⟨rfl, rfl, rfl, by decide +kernel, rfl, by decide +kernel, by decide +kernel⟩
section
variable {P : Program} {w : World} {K : PySem.W.Frag} {mg : Str → Option Value} {base : Heap}
theorem ok_relabel (E : Tops K mg) : Cal P w K mg base 12 "relabel" ["machine"] (spRel K) := by
  have c_chain_length : CaC P w K mg base 10 (spCL K) := ok_chain_length E
  have c_parts_of : Cal P w K mg base 8 "parts_of" ["edges"] spPO := (ok_parts_of E).mono (by omega)
  have c_machine_edges : Cal P w K mg base 8 "machine_edges" ["machine"] (spME K) := (ok_machine_edges E).mono (by omega)
  have c_mstates : Cam P w K mg base 1 "states" ["self"] (spMStates K) := ok_mstates E
  have c_mletters : Cam P w K mg base 1 "letters" ["self"] (spMLet K) := ok_mletters E
  have c_mstart : Cam P w K mg base 1 "start" ["self"] (spMSta K) := ok_mstart E
  have c_init : CaI P w K mg base 3 (spInit K) := ok_minit E
  refine Cal.of (k := 11) E.f_Relabel E.g_relabel sc_relabel (fun _ _ _ _ _ _ us hl => match us, hl with | [_], _ => rfl) (fun vs H Q Ex h => ?_) (fun cdv A outer s H vs Q Ex hr h => ?_)
  · obtain ⟨F, m, v, rfl, _⟩ := h
    rfl
  · obtain ⟨F, m, v, rfl, s0, hm, ok, k⟩ := h
    have c_labelled : Cal P w K mg base (4 + 4) "labelled" ["edges", "base", "labels"] (spLb (relK m) 4) := ok_labelled E (relK m) 4
    refine ⟨_, (pss_cons (ps_set (i := 1) sc_relabel.nd rfl (.inl rfl) (pe_callTy call_int1 (by rfl) E.n_int bt_int (pa_cons (pe_cmpR op_gt (pe_chlK c_chain_length (hr.mono (by omega)) rfl (pa_cons (pv 0) pa_nil) (pk_cons pe_bl pk_nil)) (pe_chl0K c_chain_length (hr.mono (by omega)) rfl (pa_cons (pv 0) pa_nil)) (nomark _)) pa_nil)))
      (pss_cons (ps_set (i := 2) sc_relabel.nd rfl (.inl rfl) pe_dnewT)
      (pss_cons (ps_for PassesOwn.never rfl (pi_listK (K := K) rfl (pe_cal c_parts_of (hr.mono (by omega)) rfl (pa_cons (pe_cal c_machine_edges (hr.mono (by omega)) rfl (pa_cons (pv 0) pa_nil)) pa_nil))) (pg_name (i := 3) sc_relabel.nd rfl (.inl rfl))
        (pss_one (ps_expr (pe_cal c_labelled (hr.mono (by omega)) rfl (pa_cons (pv 3) (pa_cons (pv 1) (pa_cons (pv 2) pa_nil)))))))
      (pss_cons (ps_set (i := 4) sc_relabel.nd rfl (.inl rfl) (pe_lst pa_nil))
      (pss_cons (ps_for PassesOwn.never rfl (pi_enumK (K := K) rfl (by rfl) E.n_enumerate (pa_cons (pe_cam0K (K := K) rfl c_mstates (hr.mono (by omega)) (pv 0)) pa_nil)) (pg_tupK (K := K) (n := 2) rfl rfl (pgs_cons (pg_name (i := 5) sc_relabel.nd rfl (.inl rfl)) (pgs_cons (pg_name (i := 6) sc_relabel.nd rfl (.inl rfl)) pgs_nil)))
        (pss_cons (ps_set (i := 7) sc_relabel.nd rfl (.inl rfl) (pe_lst pa_nil))
        (pss_cons (ps_for PassesOwn.never rfl (pi_zipSK (K := K) rfl (by rfl) E.n_zip (pa_cons (pe_cam0K (K := K) rfl c_mletters (hr.mono (by omega)) (pv 0)) (pa_cons (pv 6) pa_nil))) (pg_tupK (K := K) (n := 2) rfl rfl (pgs_cons (pg_name (i := 8) sc_relabel.nd rfl (.inl rfl)) (pgs_cons (pg_tupK (K := K) (n := 2) rfl rfl (pgs_cons (pg_name (i := 9) sc_relabel.nd rfl (.inl rfl)) (pgs_cons (pg_name (i := 10) sc_relabel.nd rfl (.inl rfl)) pgs_nil))) pgs_nil)))
          (pss_one (ps_expr (pe_bmK (K := K) rfl PySem.F.plainAttrs_list PySem.F.slot_list_append PySem.F.type_list_append mt_append (pv 7) (pa_cons (pe_tup (pa_cons (pv 9) (pa_cons (pe_dget2 (hu_of hr) (pv 2) (pe_tup (pa_cons (pv 5) (pa_cons (pv 8) pa_nil))) (pv 1) ⟨rfl, rfl, rfl, rfl⟩) pa_nil))) pa_nil)))))
        (pss_one (ps_expr (pe_bmK (K := K) rfl PySem.F.plainAttrs_list PySem.F.slot_list_append PySem.F.type_list_append mt_append (pv 4) (pa_cons (pe_callTy (call_tupD (K := K) rfl) (by rfl) E.n_tuple bt_tuple (pa_cons (pv 7) pa_nil)) pa_nil)))))))
      (pss_one (ps_ret (pe_machK (K := K) rfl c_init (hr.mono (by omega)) rfl (pa_cons (pe_cam0K (K := K) rfl c_mletters (hr.mono (by omega)) (pv 0)) (pa_cons (pv 4) pa_nil)) (pk_cons (pe_cam0K (K := K) rfl c_mstart (hr.mono (by omega)) (pv 0)) pk_nil))))))))), ?_⟩
    have W0 := Wr.start s0
    refine w_seq (w_set W0 (ev_cb (ea_cons (ev_op (ev_chl (b := false) s0 (ev_var rfl inferInstance hm) ok (ea_cons ev_c inferInstance ea_nil)) (ev_chl0 s0 (ev_var rfl inferInstance hm) ok) inferInstance op_GtEx) inferInstance ea_nil) (ca_intEx (f := fun p : Nat × Nat => decide (p.1 > p.2)))) fun vb F1 H1 g1 W1 ⟨⟨o, e⟩, ⟨⟨go, Mo, ho⟩, ⟨ge, Me, he⟩⟩, eb⟩ => ?_)
    obtain ⟨b, hb, hbv⟩ : ∃ b : Nat, b = (if e < o then 1 else 0) ∧ vb = .int (b : Int) := ⟨_, rfl, by
      have e1 : vb = .int (if decide (o > e) = true then 1 else 0) := eb
      rw [e1]
      by_cases z : e < o
      · rw [if_pos z, if_pos (decide_eq_true z)]; rfl
      · rw [if_neg z, if_neg (by rw [decide_eq_false z]; decide)]; rfl⟩
    subst hbv
    have hb1 : b ≤ 1 := by rw [hb]; split <;> omega
    dsimp only
    refine w_seq (w_newD (N := LKey) W1 fun D H2 W2 => ?_)
    have hm1 := (inferInstance : Mn (pM K m)).mn g1.fx hm
    have W2 : Wr F H [(D, dLab [])] F1 H2 none := W2
    dsimp only
    refine w_seq (w_forEx (K := K) (Pa := fun gs : List (Gph Int) => isLst (gs.map pG)) (C := fun gs => ∃ g, MEOk m g ∧ PartsOk g gs) W2 ?_ fun gs vg F3 H3 ⟨g, hM, hgs⟩ g3 W3 hvg => ?_)
    · intro F3 H3 g3 s3 Q3 q3
      have sm3 := Gr.same W2.same g3
      show tCall spPO [] E0 _ _ _ _
      refine ev_call (R := isEx (fun g : Gph Int => pG g) (MEOk m)) (sp := spME K) (ta := tCons (tVar 0) tNil) W2.same (ea_cons (P := pM K m) (ev_var rfl inferInstance hm1) inferInstance ea_nil) (fun F4 H4 vs Q4 g4 s4 hvs r4 => ?_) F3 H3 g3 s3 _ fun vG F4 H4 g4 ⟨g, hM, hg⟩ => ?_
      · cases hvs with
        | cons h1 hvs =>
          cases hvs
          exact ⟨F4, m, _, rfl, s4, h1, ok, r4⟩
      · exact ⟨F4, g, vG, rfl, Gr.same sm3 g4, hg, hM.wf ok, hM.cap ok, fun v5 F5 H5 g5 ⟨gs, hgs, h5⟩ => q3 v5 F5 H5 (g4.trans g5) ⟨gs, ⟨g, hM, hgs⟩, h5⟩⟩
    · have Wg := hM.wf ok
      have hLG := hM.lg ok
      have hip := parts_isPart Wg hgs
      have hKS := relK_len ok hM
      refine w_forLm (f := pG) (xs := gs) W3 (ev_lit inferInstance hvg) (fun _ => inferInstance) fun F4 H4 g4 W4 => ?_
      refine ⟨fun i σ' F' H' => ∃ (nb : Nat) (l' : LTab) (x3 : Option V), σ' = [some v, some (.int (b : Int)), some (.ref D), x3, none, none, none, none, none, none, none] ∧ Wr F H [(D, dLab l')] F' H' none ∧ LbI (gs.take i) (relK m) b [] l' nb,
        ⟨0, [], none, rfl, W4, by rw [List.take_zero]; exact LbI.start (by simp) (fun k hk => by cases hk)⟩, ?_, ?_⟩
      · rintro i h vh σ' F' H' hi hvh sF ⟨nb, l', x3, rfl, W5, B⟩
        obtain ⟨Ih, hsb⟩ := hip h (List.mem_of_getElem? hi)
        have hvh : pG h F' vh := hvh
        have htk : gs.take (i + 1) = gs.take i ++ [h] := by rw [List.take_succ, hi]; rfl
        have dis := disj_at Wg hLG hgs hi
        have noh : ∀ t, EdT h t → luk l' (tk t) = none := fun t ht => by
          rw [B.out _ fun h' hh t' ht' e => dis h' hh t' t ht' ht e]
          rfl
        refine callO (Ps := [pG h, isV (.int b), isV (.ref D)]) (R := LabR h (relK m) b l') W5 (j := 0) rfl (ea_cons (ev_var rfl inferInstance hvh) inferInstance (ea_cons (ev_varV rfl) inferInstance (ea_cons (ev_varV rfl) inferInstance ea_nil))) (fun F6 H6 vs Q6 sF6 s6 f6 h6 hvs r6 => ?_) fun v6 F6 H6 o6 s6 W6 ⟨l'', n, eo, hlb, ev⟩ => ?_
        · cases hvs with
          | cons h1 hvs =>
            cases hvs with
            | cons h2 hvs =>
              cases hvs with
              | cons h3 hvs =>
                cases hvs
                obtain rfl : _ = V.int (b : Int) := h2
                obtain rfl : _ = V.ref D := h3
                exact ⟨F6, h, _, D, l', b, rfl, s6, f6, h6, h1, Ih, Nat.le_trans (parts_cap hgs h (List.mem_of_getElem? hi)) (hM.cap ok), fun u t v e => hM.prb ok u t v (hsb u t v e), by omega, hLG.sub hsb, by omega, hb1, B.nd, B.sub, noh, r6⟩
        · subst eo
          exact ⟨F6, sF.trans s6, W6.sub, max nb n, l'', some vh, rfl, W6, by rw [htk]; exact B.step dis hlb⟩
      · rintro σ' F' H' sF ⟨nb, l', x3, rfl, W5, B⟩
        rw [List.take_length] at B
        have hrel := rel_of ok hM hgs B (LenOk.to Me hM he) (LenOk.to Mo hM ho) hb
        have s06 : Same F F' := ((g1.fx.trans g3.fx).trans g4.fx).trans sF
        have hm6 := (inferInstance : Mn (pM K m)).mn s06 hm
        have hl9 : m.ls.length ≤ 3 := by
          show m.al.cps.toList.length ≤ 3
          rw [Array.length_toList]
          exact (alph_size ok.al).2
        have ht2 := ok.t2
        dsimp only
        refine w_seq (w_newL W5 fun S H6 W6 => ?_)
        dsimp only
        refine w_seq (w_forI (xs := m.tab) (Y := pIx pRow) W6 (ei_enum (f := pRow) (ea_cons (P := isLst (m.tab.map pRow)) (ev_camS (ev_var rfl inferInstance hm6) ea_nil fun F1 H1 x vs Q1 g1 s1 hx hvs r1 => by
          cases hvs
          exact ⟨F1, m, x, rfl, s1, hx, r1⟩) inferInstance ea_nil) fun _ => inferInstance) fun F7 H7 g7 W7 => ?_)
        refine ⟨fun i σ' F' H' => ∃ (vs : List V) (x5 x6 x7 x8 x9 x10 : Option V), σ' = [some v, some (.int (b : Int)), some (.ref D), x3, some (.ref S), x5, x6, x7, x8, x9, x10] ∧ Wr F H [(S, .lst vs), (D, dLab l')] F' H' none ∧ PrL F' (((relM m l' b).tab.take i).map pRow) vs, ⟨[], _, _, _, _, _, _, rfl, W7, by rw [List.take_zero]; exact .nil⟩, ?_, ?_⟩
        · rintro i r vr σ' F' F8 H' H8 hi sF8 ⟨vs, x5, x6, x7, x8, x9, x10, rfl, W8, hvs⟩ g8 hvr
          have W9 := W8.gro g8
          refine tg_tup2 W9.sub hvr fun vi vr2 hvi hvr2 => ?_
          obtain rfl : vi = .int (i : Int) := hvi
          have hvr2 : isTupD (r.map fun p => Nd.nd p) F8 vr2 := hvr2
          have s89 := sF8.trans g8.fx
          have s9 : Same F F8 := (s06.trans g7.fx).trans s89
          have hm9 := (inferInstance : Mn (pM K m)).mn s9 hm
          have hvs9 := (mnl_map (fun _ => inferInstance) _ : MnL (((relM m l' b).tab.take i).map pRow)).mn g8.fx hvs
          have hrm := List.mem_of_getElem? hi
          have hrl : r.length = m.al.cps.size := by rw [ok.wd r hrm]; show m.al.cps.toList.length = _; rw [Array.length_toList]
          have hrl3 : r.length ≤ 3 := by rw [ok.wd r hrm]; exact hl9
          dsimp only
          refine w_seq (w_newL W9 fun R H10 W10 => ?_)
          dsimp only
          refine w_seq (w_forI (xs := r) (Y := pZip m.al (fun p : Pt => Nd.nd p)) W10 (ei_zipS (ea_cons (P := isV (.str m.al)) (ev_camS (ev_var rfl inferInstance hm9) ea_nil fun F1 H1 x vs Q1 g1 s1 hx hvs r1 => by
            cases hvs
            exact ⟨F1, m, x, rfl, s1, hx, r1⟩) inferInstance (ea_cons (P := isTupD (r.map fun p => Nd.nd p)) (ev_var rfl inferInstance hvr2) inferInstance ea_nil)) hrl fun _ => inferInstance) fun F11 H11 g11 W11 => ?_)
          refine ⟨fun j σ' F' H' => ∃ (ws : List V) (x8 x9 x10 : Option V), σ' = [some v, some (.int (b : Int)), some (.ref D), x3, some (.ref S), some (.int (i : Int)), some vr2, some (.ref R), x8, x9, x10] ∧ Wr F H [(R, .lst ws), (S, .lst vs), (D, dLab l')] F' H' none ∧ PrL F' (((relRow m.ls l' b i r).take j).map fun p => Nd.nd p) ws, ⟨[], _, _, _, rfl, W11, by rw [List.take_zero]; exact .nil⟩, ?_, ?_⟩
          · rintro j p vp σ' F' F12 H' H12 hj sF12 ⟨ws, x8, x9, x10, rfl, W12, hws⟩ g12 hvp
            have W13 := W12.gro g12
            have hvp : isTup [isV (.str (sg (m.al.cps.getD j 0))), isTup [isV (.int p.1), isV (.int p.2)]] F12 vp := hvp
            refine tg_tup12 W13.sub hvp fun vc vt vq hc ht hq => ?_
            obtain rfl : vc = _ := hc
            obtain rfl : vt = _ := ht
            obtain rfl : vq = _ := hq
            have hws13 := (mnl_map (fun _ => inferInstance) _ : MnL (((relRow m.ls l' b i r).take j).map fun p => (Nd.nd p : Pr))).mn g12.fx hws
            have hwl : ws.length ≤ 3 := by
              have := hws.length
              rw [List.length_map, List.length_take] at this
              have h2 : (relRow m.ls l' b i r).length = r.length := by unfold relRow; rw [List.length_mapIdx]
              omega
            dsimp only
            have hD13 : H12 D = some (Nd.dic (l'.map fun p => (p.1, V.int p.2))) := W13.at (j := 2) rfl
            refine w_app W13 (j := 0) (P := (Nd.nd ((p.1, (luk l' ((i : Int), sg (m.al.cps.getD j 0))).getD b) : Pt) : Pr)) rfl (ev_varV rfl)
              (ev_tup (Ps := [isV (.int p.1), isV (.int ((luk l' ((i : Int), sg (m.al.cps.getD j 0))).getD b))]) (ea_cons (ev_varV rfl) inferInstance (ea_cons ((ev_dget2O (N := LKey) (n := ((i : Int), sg (m.al.cps.getD j 0))) (z := .int (b : Int)) hD13 (ev_varV rfl) (ev_tup (Ps := [isV (.int (i : Int)), isV (.str (sg (m.al.cps.getD j 0)))]) (ea_cons (ev_varV rfl) inferInstance (ea_cons (ev_varV rfl) inferInstance ea_nil)) inferInstance) (ev_varV rfl)).is ?_) inferInstance ea_nil)) inferInstance) (by omega) fun va F14 H14 g14 W14 ha => ?_
            · rw [luk_mapR]
              cases luk l' ((i : Int), sg (m.al.cps.getD j 0)) <;> rfl
            · refine ⟨F14, (sF12.trans g12.fx).trans g14.fx, W14.sub, ws ++ [va], _, _, _, rfl, W14, ?_⟩
              have hji : (relRow m.ls l' b i r)[j]? = some (p.1, (luk l' ((i : Int), sg (m.al.cps.getD j 0))).getD b) := by
                unfold relRow
                rw [List.getElem?_mapIdx, hj]
                have : m.ls.getD j 0 = m.al.cps.getD j 0 := by
                  show m.al.cps.toList.getD j 0 = _
                  rw [List.getD_eq_getElem?_getD, Array.getD_eq_getD_getElem?, Array.getElem?_toList]
                rw [this]; rfl
              rw [List.take_succ, hji, List.map_append]
              exact ((mnl_map (fun _ => inferInstance) _ : MnL (((relRow m.ls l' b i r).take j).map fun p => (Nd.nd p : Pr))).mn g14.fx hws13).append (.one ha)
          · rintro σ' F' H' sF12 ⟨ws, x8, x9, x10, rfl, W12, hws⟩
            have hjl : (relRow m.ls l' b i r).length = r.length := by unfold relRow; rw [List.length_mapIdx]
            rw [List.take_of_length_le (by omega)] at hws
            obtain ⟨W13, s13⟩ := W12.frz (j := 0) rfl (fun od u z => by cases z)
            have hR : isLst ((relRow m.ls l' b i r).map fun p => Nd.nd p) (upd F' R (.lst ws)) (.ref R) := ⟨R, ws, rfl, upd_same, (mnl_map (fun _ => inferInstance) _ : MnL ((relRow m.ls l' b i r).map fun p => (Nd.nd p : Pr))).mn s13 hws⟩
            have hvl : vs.length ≤ 3 := by
              have := hvs.length
              rw [List.length_map, List.length_take] at this
              have := hrel.ok.t2
              omega
            dsimp only
            have s13' := (g11.fx.trans sF12).trans s13
            refine w_app W13 (j := 0) (P := pRow (relRow m.ls l' b i r)) rfl (ev_varV rfl) (ev_cb (ea_cons (P := isLst ((relRow m.ls l' b i r).map fun p => Nd.nd p)) (ev_var rfl inferInstance hR) inferInstance ea_nil) (ca_tupDL inferInstance)) (by omega) fun va F14 H14 g14 W14 ha => ?_
            refine ⟨F14, (s89.trans s13').trans g14.fx, W14.sub, vs ++ [va], _, _, _, _, _, _, rfl, W14, ?_⟩
            have hii : (relM m l' b).tab[i]? = some (relRow m.ls l' b i r) := by
              show (m.tab.mapIdx _)[i]? = _
              rw [List.getElem?_mapIdx, hi]; rfl
            rw [List.take_succ, hii, List.map_append]
            exact ((mnl_map (fun _ => inferInstance) _ : MnL (((relM m l' b).tab.take i).map pRow)).mn (s13'.trans g14.fx) hvs9).append (.one ha)
        · rintro σ' F' H' sF8 ⟨vs, x5, x6, x7, x8, x9, x10, rfl, W8, hvs⟩
          have htl : (relM m l' b).tab.length = m.tab.length := hrel.tl
          rw [List.take_of_length_le (by omega)] at hvs
          obtain ⟨W9, s9⟩ := W8.frz (j := 0) rfl (fun od u z => by cases z)
          have hS : isLst ((relM m l' b).tab.map pRow) (upd F' S (.lst vs)) (.ref S) := ⟨S, vs, rfl, upd_same, (mnl_map (fun _ => inferInstance) _ : MnL ((relM m l' b).tab.map pRow)).mn s9 hvs⟩
          have s09 : Same F (upd F' S (.lst vs)) := ((s06.trans g7.fx).trans sF8).trans s9
          have hm9 := (inferInstance : Mn (pM K m)).mn s09 hm
          dsimp only
          refine w_ret W9 (ev_mach (m := relM m l' b) W9.same (ea_cons (P := isV (.str m.al)) (ev_camS (ev_var rfl inferInstance hm9) ea_nil fun F1 H1 x vs Q1 g1 s1 hx hvs r1 => by
            cases hvs
            exact ⟨F1, m, x, rfl, s1, hx, r1⟩) inferInstance (ea_cons (P := isLst ((relM m l' b).tab.map pRow)) (ev_var rfl inferInstance hS) inferInstance ea_nil)) (ea_cons (P := isV (.int m.st)) (ev_camS (ev_var rfl inferInstance hm9) ea_nil fun F1 H1 x vs Q1 g1 s1 hx hvs r1 => by
            cases hvs
            exact ⟨F1, m, x, rfl, s1, hx, r1⟩) inferInstance ea_nil) hrel.ok) fun v10 F10 H10 g10 W10 h10 => ?_
          exact k v10 F10 H10 W10.gr ⟨relM m l' b, hrel, h10⟩
end
end EL

set_option Elab.async false
set_option linter.all false
set_option maxRecDepth 100000
set_option maxHeartbeats 2000000
namespace EL
open PySem PySem.Spec PyProof.Rows L2
def shR (a : Int) (r : List Pt) : List Pt := r.map fun p => (p.1, p.2 + a)
def shM (m : Mach) (a : Int) : Mach := { al := m.al, tab := m.tab.map (shR a), st := m.st }
theorem shM_ok {m : Mach} {a : Int} (ok : MOk m) (h : ∀ r ∈ m.tab, ∀ p ∈ r, 0 ≤ p.2 + a ∧ p.2 + a ≤ 3) : MOk (shM m a) := by
  have hl : (shM m a).tab.length = m.tab.length := by show (m.tab.map _).length = _; rw [List.length_map]
  refine ⟨ok.al, by rw [hl]; exact ok.t1, by rw [hl]; exact ok.t2, fun r hr => ?_, fun r hr p hp => ?_, ok.s1, by rw [hl]; exact ok.s2⟩
  · obtain ⟨r0, h0, rfl⟩ := List.mem_map.mp hr
    unfold shR
    rw [List.length_map]
    exact ok.wd r0 h0
  · obtain ⟨r0, h0, rfl⟩ := List.mem_map.mp hr
    obtain ⟨p0, h1, rfl⟩ := List.mem_map.mp hp
    have := ok.rg r0 h0 p0 h1
    rw [hl]
    exact ⟨this.1, this.2.1, h r0 h0 p0 h1⟩
def spShift (K : PySem.W.Frag) : Sp := fun vs H Q _ => ∃ (F : Hp) (m : Mach) (v : V) (a : Int), vs = [v, .int a] ∧ Same F H ∧ pM K m F v ∧ MOk m ∧ MOk (shM m a) ∧ Ret F H (pM K (shM m a)) Q
theorem sc_shifted : FnScope ["machine", "amount", "states", "state", "target", "priority"] ["machine", "amount"] (defScope sShifted) := ⟨rfl, rfl, rfl, by decide +kernel, rfl, by decide +kernel, by decide +kernel⟩
section
variable {P : Program} {w : World} {K : PySem.W.Frag} {mg : Str → Option Value} {base : Heap}
theorem ok_shifted (E : Tops K mg) : Cal P w K mg base 6 "shifted" ["machine", "amount"] (spShift K) := by
  have c_mstates : Cam P w K mg base 1 "states" ["self"] (spMStates K) := ok_mstates E
  have c_mletters : Cam P w K mg base 1 "letters" ["self"] (spMLet K) := ok_mletters E
  have c_mstart : Cam P w K mg base 1 "start" ["self"] (spMSta K) := ok_mstart E
  have c_init : CaI P w K mg base 3 (spInit K) := ok_minit E
  refine Cal.of (k := 5) E.f_Shifted E.g_shifted sc_shifted (fun _ _ _ _ _ _ us hl => match us, hl with | [_, _], _ => rfl) (fun vs H Q Ex h => ?_) (fun cdv A outer s H vs Q Ex hr h => ?_)
  · obtain ⟨F, m, v, a, rfl, _⟩ := h
    rfl
  · obtain ⟨F, m, v, a, rfl, s0, hm, ok, ok2, k⟩ := h
    refine ⟨_, (pss_cons (ps_setLc (i := 2) (own := [("state", 3)]) rfl sc_shifted.nd rfl rfl (sw_true rfl rfl rfl (by decide +kernel)) (pi_listK (K := K) rfl (pe_cam0K (K := K) rfl c_mstates (hr.mono (by omega)) (pv 0))) (blkOk_by (N := ["machine", "amount", "states", "state", "target", "priority"]) (sc := defScope sShifted) (by decide +kernel)) (fun _ _ _ _ _ => (pg_name (i := 3) sc_shifted.nd rfl (.inl rfl))) (fun _ _ _ _ _ => pts_nil) (fun _ _ _ _ _ => (pe_callTy (call_tupD (K := K) rfl) (by rfl) E.n_tuple bt_tuple (pa_cons (by exact pe_lc (own := [("target", 4), ("priority", 5)]) rfl sc_shifted.nd (pi_tupK (K := K) rfl (pv 3)) (blkOk_by (N := ["machine", "amount", "states", "state", "target", "priority"]) (sc := ({ kind := .function, names := [(".0", .local), ("state", .local), ("tuple", .globalImplicit), ("amount", .cell)], isGenerator := false, isCoroutine := false })) (by decide +kernel)) (fun _ _ _ _ _ => (pg_tupK (K := K) (n := 2) rfl rfl (pgs_cons (pg_name (i := 4) sc_shifted.nd rfl (.inl rfl)) (pgs_cons (pg_name (i := 5) sc_shifted.nd rfl (.inl rfl)) pgs_nil)))) (fun _ _ _ _ _ => pts_nil) (fun _ _ _ _ _ => (pe_tup (pa_cons (pv 4) (pa_cons (pe_op op_add (pv 5) (pv 1)) pa_nil))))) pa_nil))))
      (pss_one (ps_ret (pe_machK (K := K) rfl c_init (hr.mono (by omega)) rfl (pa_cons (pe_cam0K (K := K) rfl c_mletters (hr.mono (by omega)) (pv 0)) (pa_cons (pv 2) pa_nil)) (pk_cons (pe_cam0K (K := K) rfl c_mstart (hr.mono (by omega)) (pv 0)) pk_nil))))), ?_⟩
    have W0 := Wr.start s0
    have ht2 := ok.t2
    have hl3 : ∀ r ∈ m.tab, r.length ≤ 3 := fun r hr => by
      rw [ok.wd r hr]
      show m.al.cps.toList.length ≤ 3
      rw [Array.length_toList]
      exact (alph_size ok.al).2
    refine w_seq (w_set W0 (P := isLst ((shM m a).tab.map pRow)) (EvP.imp (ev_lc (xs := m.tab) (f := pRow) (p := fun _ => true) (q := fun r => pRow (shR a r)) (k := none) (ei_list (f := pRow) (ev_camS (R := isLst (m.tab.map pRow)) (ev_var rfl inferInstance hm) ea_nil fun F1 H1 x vs Q1 g1 s1 hx hvs r1 => by
        cases hvs
        exact ⟨F1, m, x, rfl, s1, hx, r1⟩) fun _ => inferInstance) (fun _ _ _ z => by cases z) (by omega) (fun _ => inferInstance) fun r vr F1 H1 hr1 g1 s1 hvr Q1 hQ1 => ?_) fun F v h => ?_) fun vS F2 H2 g2 W2 hS => ?_)
    · have hvr : isTupD (r.map fun p => Nd.nd p) F1 vr := hvr
      refine hQ1 _ rfl et_yes fun _ => ev_cb (ea_cons (P := isLst ((shR a r).map fun p => Nd.nd p)) (EvP.imp (ev_lc (xs := r) (f := fun p : Pt => Nd.nd p) (p := fun _ => true) (q := fun p : Pt => (Nd.nd ((p.1, p.2 + a) : Pt) : Pr)) (k := none) (ei_tupD (f := fun p : Pt => Nd.nd p) (ev_var rfl inferInstance hvr) fun _ => inferInstance) (fun _ _ _ z => by cases z) (by have := hl3 r hr1; omega) (fun _ => inferInstance) fun p vp F3 H3 hp g3 s3 hvp Q3 hQ3 => ?_) fun F v h => ?_) inferInstance ea_nil) (ca_tupDL inferInstance)
      · have hvp : isTup [isV (.int p.1), isV (.int p.2)] F3 vp := hvp
        refine tg_tup2 s3 hvp fun vt vq ht hq => ?_
        obtain rfl : vt = _ := ht
        obtain rfl : vq = _ := hq
        exact hQ3 _ rfl et_yes fun _ => ev_tup (Ps := [isV (.int p.1), isV (.int (p.2 + a))]) (ea_cons (ev_varV rfl) inferInstance (ea_cons (ev_op (ev_varV rfl) (ev_varV rfl) inferInstance op_I0) inferInstance ea_nil)) inferInstance
      · rw [List.filter_eq_self.mpr fun _ _ => rfl] at h
        unfold shR
        rw [List.map_map]
        exact h
    · rw [List.filter_eq_self.mpr fun _ _ => rfl] at h
      show isLst ((m.tab.map (shR a)).map pRow) F v
      rw [List.map_map]
      exact h
    · have hm2 := (inferInstance : Mn (pM K m)).mn g2.fx hm
      dsimp only
      refine w_ret W2 (ev_mach (m := shM m a) W2.same (ea_cons (P := isV (.str m.al)) (ev_camS (ev_var rfl inferInstance hm2) ea_nil fun F1 H1 x vs Q1 g1 s1 hx hvs r1 => by
          cases hvs
          exact ⟨F1, m, x, rfl, s1, hx, r1⟩) inferInstance (ea_cons (P := isLst ((shM m a).tab.map pRow)) (ev_var rfl inferInstance hS) inferInstance ea_nil)) (ea_cons (P := isV (.int m.st)) (ev_camS (ev_var rfl inferInstance hm2) ea_nil fun F1 H1 x vs Q1 g1 s1 hx hvs r1 => by
          cases hvs
          exact ⟨F1, m, x, rfl, s1, hx, r1⟩) inferInstance ea_nil) ok2) fun v10 F10 H10 g10 W10 h10 => ?_
      exact k v10 F10 H10 W10.gr h10
end
end EL

set_option Elab.async false
set_option linter.all false
set_option maxRecDepth 100000
set_option maxHeartbeats 2000000
namespace EL
open PySem PySem.Spec PyProof.Rows L2
def dPt (p : Pt) : PyData := .tuple [.int p.1, .int p.2]
def dRow (r : List Pt) : PyData := .tuple (r.map dPt)
theorem dPts_ok : ∀ r : List Pt, PyData.canLayAll0 (r.map dPt) = true ∧ PyData.depthAll (r.map dPt) ≤ 1
  | [] => by simp [PyData.canLayAll0, PyData.depthAll]
  | p :: r => by
    have h := dPts_ok r
    refine ⟨by simp [PyData.canLayAll0, PyData.canLay0, dPt, h.1], ?_⟩
    have h2 := h.2
    simp only [List.map_cons, PyData.depthAll, PyData.depth, dPt]
    omega
theorem dRows_ok : ∀ rs : List (List Pt), PyData.canLayAll0 (rs.map dRow) = true ∧ PyData.depthAll (rs.map dRow) ≤ 2
  | [] => by simp [PyData.canLayAll0, PyData.depthAll]
  | r :: rs => by
    have h := dRows_ok rs
    have h1 := dPts_ok r
    refine ⟨by simp [PyData.canLayAll0, PyData.canLay0, dRow, h.1, h1.1], ?_⟩
    have h2 := h.2
    have h3 := h1.2
    simp only [List.map_cons, PyData.depthAll, PyData.depth, dRow]
    omega
theorem dRow_shaped (r : List Pt) : SeqAt.shaped (dRow r) = true := by
  have h := dPts_ok r
  have h2 := h.2
  show ((dRow r).canLay0 && decide ((dRow r).depth ≤ 64)) = true
  rw [Bool.and_eq_true]
  refine ⟨by simp [dRow, PyData.canLay0, h.1], decide_eq_true ?_⟩
  simp only [dRow, PyData.depth]
  omega
theorem dRows_shaped (rs : List (List Pt)) : SeqAt.shaped (.list (rs.map dRow)) = true := by
  have h := dRows_ok rs
  have h2 := h.2
  show (PyData.canLay0 (.list (rs.map dRow)) && decide (PyData.depth (.list (rs.map dRow)) ≤ 64)) = true
  rw [Bool.and_eq_true]
  refine ⟨by simp [PyData.canLay0, h.1], decide_eq_true ?_⟩
  simp only [PyData.depth]
  omega
def pKd (r : List Pt) : Pr := isTup (r.map fun p => Nd.nd p)
instance {r : List Pt} : Mn (pKd r) := by unfold pKd; exact (inferInstance : Mn (isTup (r.map fun p => Nd.nd p)))
theorem dp_pt {K : PySem.W.Frag} {F H : Hp} {p : Pt} {v : V} (s : Sub F H) (h : (Nd.nd p : Pr) F v) : Dp K H v (dPt p) := by
  have h : isTup [isV (.int p.1), isV (.int p.2)] F v := h
  obtain ⟨a, vs, rfl, ha, hp⟩ := h
  cases hp with
  | cons p1 hp =>
    cases hp with
    | cons p2 hp =>
      cases hp
      obtain rfl := p1
      obtain rfl := p2
      exact .tup (SqT.of (s.tup ha)) (.cons (.int _) (.cons (.int _) .nil))
theorem dp_all {K : PySem.W.Frag} {F H : Hp} {α : Type} {f : α → Pr} {d : α → PyData} (s : Sub F H) (h : ∀ x v, f x F v → Dp K H v (d x)) : ∀ {xs : List α} {vs : List V}, PrL F (xs.map f) vs → DpAll K H vs (xs.map d)
  | [], vs, hp => by cases hp; exact .nil
  | x :: xs, vs, hp => by
    cases hp with
    | cons p1 hp => exact .cons (h x _ p1) (dp_all s h hp)
theorem dp_row {K : PySem.W.Frag} {F H : Hp} {r : List Pt} {v : V} (s : Sub F H) (h : pKd r F v) : Dp K H v (dRow r) := by
  obtain ⟨a, vs, rfl, ha, hp⟩ := h
  exact .tup (SqT.of (s.tup ha)) (dp_all s (fun p v h => dp_pt s h) hp)
/-- kinds.index(kind) -/
theorem ev_indexD {K : PySem.W.Frag} {F H : Hp} {σ : L2.St} {t to : TE} {rs : List (List Pt)} {r : List Pt} (ho : EvP to σ F H (isLst (rs.map pKd))) (ht : EvP t σ F H (pKd r)) (hr : r ∈ rs) : EvP (tBM K "list" (rIndexD K) to (tCons t tNil)) σ F H (isEx (fun j : Nat => isV (.int (j : Nat))) fun j => j < rs.length) := by
  refine ev_bmL ho (mnl_map (fun _ => inferInstance) _) (ea_cons ht inferInstance ea_nil) fun F1 H1 x vs Q g s hx hv q => ?_
  obtain ⟨a, ws, rfl, ha, hw⟩ := hx
  cases hv with
  | cons h1 hv =>
    cases hv
    obtain ⟨i, hi⟩ := List.getElem?_of_mem hr
    have hex : ∃ j z, (rs.map dRow)[j]? = some z ∧ PyData.eqv z (dRow r) = true := ⟨i, dRow r, by rw [List.getElem?_map, hi]; rfl, SeqAt.eqv_refl _ (SeqAt.canLay_of_shaped (dRow_shaped r))⟩
    obtain ⟨j, ⟨z, hz, he⟩, hmin⟩ : ∃ j, (∃ z, (rs.map dRow)[j]? = some z ∧ PyData.eqv z (dRow r) = true) ∧ ∀ m, m < j → ¬ ∃ z, (rs.map dRow)[m]? = some z ∧ PyData.eqv z (dRow r) = true := by
      obtain ⟨j, hj⟩ := hex
      induction j using Nat.strongRecOn with
      | ind j ih =>
        by_cases q : ∃ m, m < j ∧ ∃ z, (rs.map dRow)[m]? = some z ∧ PyData.eqv z (dRow r) = true
        · obtain ⟨m, hm, hz⟩ := q
          exact ih m hm hz
        · exact ⟨j, hj, fun m hm hz => q ⟨m, hm, hz⟩⟩
    have hjl : j < rs.length := by
      have := (List.getElem?_eq_some_iff.mp hz).1
      simpa using this
    refine ⟨a, _, dRow r, rs.map dRow, j, z, rfl, rfl, .lst (SqL.of (s.lst ha)) (dp_all s (fun p v h => dp_row s h) hw), dp_row s h1, dRows_shaped rs, dRow_shaped r, hz, he, fun m z' hm hz' => ?_, q _ F1 H1 Gr.refl ⟨j, hjl, rfl⟩⟩
    cases e : PyData.eqv z' (dRow r) with
    | false => rfl
    | true => exact absurd ⟨z', hz', e⟩ (hmin m hm)
end EL

set_option Elab.async false
set_option linter.all false
set_option maxRecDepth 100000
set_option maxHeartbeats 2000000
namespace EL
open PySem PySem.Spec PyProof.Rows L2
theorem room65 {k : Nat} {A : Around} (r : Room k A) {n : Nat} (h : n ≤ A.units + 3) : n + 65 < cLine := by have := r.un; omega
def isIn (ns : List Int) : Pr := isLst (ns.map fun n => isV (.int n))
instance {ns : List Int} : Mn (isIn ns) := by unfold isIn; exact ⟨fun s h => (inferInstance : Mn (isLst (ns.map fun n => isV (.int n)))).mn s h⟩
def Bnd (n : Nat) (xs : List Int) : Prop := xs.length = n ∧ ∀ x ∈ xs, 0 ≤ x ∧ x < n
theorem exInts {F : Hp} {α : Type} {n : Nat} : ∀ {rs : List α} {vs : List V}, PrL F (rs.map fun _ => isEx (fun j : Nat => isV (.int (j : Nat))) fun j => j < n) vs → ∃ xs : List Int, xs.length = rs.length ∧ (∀ x ∈ xs, 0 ≤ x ∧ x < n) ∧ PrL F (xs.map fun x => isV (.int x)) vs
  | [], vs, h => by cases h; exact ⟨[], rfl, fun x h => (by cases h), .nil⟩
  | r :: rs, vs, h => by
    cases h with
    | cons h1 h2 =>
      obtain ⟨j, hj, e⟩ := h1
      obtain ⟨xs, h3, h4, h5⟩ := exInts h2
      refine ⟨(j : Int) :: xs, by simp [h3], fun x hx => ?_, .cons e h5⟩
      rcases List.mem_cons.mp hx with z | z
      · subst z; omega
      · exact h4 x z
theorem at_in {n : Nat} {xs : List Int} (B : Bnd n xs) {t : Int} (h0 : 0 ≤ t) (h1 : t < n) : atI (xs.map fun x => isV (.int x)) t = some (isV (.int (xs.getD t.toNat 0))) ∧ 0 ≤ xs.getD t.toNat 0 ∧ xs.getD t.toNat 0 < n := by
  have hl : t.toNat < xs.length := by have := B.1; omega
  have e : xs.getD t.toNat 0 = xs[t.toNat] := by rw [List.getD_eq_getElem?_getD, List.getElem?_eq_getElem hl]; rfl
  have e2 := atI_nat (j := t.toNat) (xs := xs.map fun x => isV (.int x)) (by rw [List.getElem?_map, List.getElem?_eq_getElem hl]; rfl)
  rw [Int.toNat_of_nonneg h0] at e2
  rw [e]
  exact ⟨e2, B.2 _ (List.getElem_mem hl)⟩
/-- [0] * n -/
theorem ev_rep0 {σ : L2.St} {F H : Hp} {tb : TE} {n : Nat} (hb : EvP tb σ F H (isV (.int (n : Nat)))) (hn : n ≤ 1000) : EvP (tOp rRep (tLst (tCons (tC (.int 0)) tNil)) tb) σ F H (isIn (List.replicate n 0)) := fun F1 H1 g s Q q => by
  refine ⟨by decide, fun p hp => ?_⟩
  have gp : Gr F1 H1 F1 (upd H1 p (.lst [.int 0])) := Gr.new hp
  refine hb F1 _ (g.trans gp) (s.gr gp) _ fun y F2 H2 g2 ey => ?_
  obtain rfl : y = .int (n : Int) := ey
  refine ⟨p, _, _, rfl, rfl, g2.ex _ _ upd_same, by omega, by omega, ?_, fun p2 hp2 => ?_⟩
  · show 1 * (n : Int).toNat ≤ sizeLine
    rw [Int.toNat_natCast, Nat.one_mul]
    exact Nat.le_trans hn (by decide)
  · have f := ((s.gr gp).gr g2).free hp2
    refine q _ _ _ ((gp.trans g2).trans (Gr.newF hp2 f)) ⟨p2, _, rfl, upd_same, ?_⟩
    rw [Int.toNat_natCast]
    have e : (List.replicate n [V.int 0]).flatten = (List.replicate n (0 : Int)).map V.int := by
      clear hb hn
      induction n with
      | zero => rfl
      | succ n ih => simp [List.replicate_succ]
    rw [e]
    have := PrL.of_isV (F := upd F2 p2 (.lst ((List.replicate n (0 : Int)).map V.int))) ((List.replicate n (0 : Int)).map V.int)
    rw [List.map_map] at this
    exact this
def kdR (xs : List Int) (r : List Pt) : List Pt := r.map fun p => (xs.getD p.1.toNat 0, p.2)
def spBeh (K : PySem.W.Frag) : Sp := fun vs H Q _ => ∃ (F : Hp) (m : Mach) (v : V), vs = [v] ∧ Same F H ∧ pM K m F v ∧ MOk m ∧ Ret F H (isEx isIn (Bnd m.tab.length)) Q
theorem sc_behaviours : FnScope ["machine", "states", "same", "turn", "kinds", "target", "priority", "state", "kind"] ["machine"] (defScope sBehaviours) := ⟨rfl, rfl, rfl, by decide +kernel, rfl, by decide +kernel, by decide +kernel⟩
section
variable {P : Program} {w : World} {K : PySem.W.Frag} {mg : Str → Option Value} {base : Heap}
theorem ok_behaviours (E : Tops K mg) : Cal P w K mg base 6 "behaviours" ["machine"] (spBeh K) := by
  have c_mstates : Cam P w K mg base 1 "states" ["self"] (spMStates K) := ok_mstates E
  refine Cal.of (k := 5) E.f_Behaviours E.g_behaviours sc_behaviours (fun _ _ _ _ _ _ us hl => match us, hl with | [_], _ => rfl) (fun vs H Q Ex h => ?_) (fun cdv A outer s H vs Q Ex hr h => ?_)
  · obtain ⟨F, m, v, rfl, _⟩ := h
    rfl
  · obtain ⟨F, m, v, rfl, s0, hm, ok, k⟩ := h
    refine ⟨_, (pss_cons (ps_set (i := 1) sc_behaviours.nd rfl (.inl rfl) (pe_cam0K (K := K) rfl c_mstates (hr.mono (by omega)) (pv 0)))
      (pss_cons (ps_set (i := 2) sc_behaviours.nd rfl (.inr rfl) (pe_op op_rep (pe_lst (pa_cons pe_int pa_nil)) (pe_callB (call_len_seqK (K := K) rfl) (by rfl) E.n_len bt_len (pa_cons (pv 1) pa_nil))))
      (pss_cons (ps_for PassesOwn.never rfl (pi_range1 (by rfl) E.n_range (pa_cons (pe_op op_add (pe_callB (call_len_seqK (K := K) rfl) (by rfl) E.n_len bt_len (pa_cons (pv 1) pa_nil)) pe_int) pa_nil)) (pg_name (i := 3) sc_behaviours.nd rfl (.inl rfl))
        (pss_cons (ps_set (i := 4) sc_behaviours.nd rfl (.inr rfl) (by exact pe_lc (own := [("state", 7)]) rfl sc_behaviours.nd (pi_listK (K := K) rfl (pv 1)) (blkOk_by (N := ["machine", "states", "same", "turn", "kinds", "target", "priority", "state", "kind"]) (sc := defScope sBehaviours) (by decide +kernel)) (fun _ _ _ _ _ => (pg_name (i := 7) sc_behaviours.nd rfl (.inl rfl))) (fun _ _ _ _ _ => pts_nil) (fun _ _ _ _ _ => (pe_callTy (call_tuple_ofK (K := K) rfl) (by rfl) E.n_tuple bt_tuple (pa_cons (by exact pe_lc (own := [("target", 5), ("priority", 6)]) rfl sc_behaviours.nd (pi_tupK (K := K) rfl (pv 7)) (blkOk_by (N := ["machine", "states", "same", "turn", "kinds", "target", "priority", "state", "kind"]) (sc := ({ kind := .function, names := [(".0", .local), ("state", .local), ("tuple", .globalImplicit), ("same", .cell)], isGenerator := false, isCoroutine := false })) (by decide +kernel)) (fun _ _ _ _ _ => (pg_tupK (K := K) (n := 2) rfl rfl (pgs_cons (pg_name (i := 5) sc_behaviours.nd rfl (.inl rfl)) (pgs_cons (pg_name (i := 6) sc_behaviours.nd rfl (.inl rfl)) pgs_nil)))) (fun _ _ _ _ _ => pts_nil) (fun _ _ _ _ _ => (pe_tup (pa_cons (pe_ix (ix_listK (K := K) rfl) (pv 2) (pv 5) (fun _ _ => rfl)) (pa_cons (pv 6) pa_nil))))) pa_nil)))))
        (pss_one (ps_set (i := 2) sc_behaviours.nd rfl (.inr rfl) (by exact pe_lc (own := [("kind", 8)]) rfl sc_behaviours.nd (pi_listK (K := K) rfl (pv 4)) (blkOk_by (N := ["machine", "states", "same", "turn", "kinds", "target", "priority", "state", "kind"]) (sc := defScope sBehaviours) (by decide +kernel)) (fun _ _ _ _ _ => (pg_name (i := 8) sc_behaviours.nd rfl (.inl rfl))) (fun _ _ _ _ _ => pts_nil) (fun _ _ _ _ _ => (pe_bmK (K := K) rfl PySem.F.plainAttrs_list PySem.F.slot_list_index PySem.F.type_list_index (mt_indexDK (K := K) rfl (room65 hr (by first | exact Nat.le_add_right _ 3 | exact Nat.add_le_add_left (by decide : 1 ≤ 3) _ | exact Nat.add_le_add_left (by decide : 2 ≤ 3) _))) (pv 4) (pa_cons (pv 8) pa_nil))))))))
      (pss_one (ps_ret (pv 2)))))), ?_⟩
    have W0 := Wr.start s0
    have ht2 := ok.t2
    have hl3 : ∀ r ∈ m.tab, r.length ≤ 3 := fun r hr => by
      rw [ok.wd r hr]
      show m.al.cps.toList.length ≤ 3
      rw [Array.length_toList]
      exact (alph_size ok.al).2
    refine w_seq (w_set W0 (P := isLst (m.tab.map pRow)) (ev_camS (R := isLst (m.tab.map pRow)) (ev_var rfl inferInstance hm) ea_nil fun F1 H1 x vs Q1 g1 s1 hx hvs r1 => by
        cases hvs
        exact ⟨F1, m, x, rfl, s1, hx, r1⟩) fun vS F1 H1 g1 W1 hS => ?_)
    dsimp only
    have hlen : ∀ {σ : L2.St} {F2 H2 : Hp}, σ[1]? = some (some vS) → Same F1 F2 → EvP (tCB (fun xs H Q => ∃ p ys, xs = [.ref p] ∧ (SqL K H p ys ∨ SqT K H p ys) ∧ Q (.int ys.length) H) (tCons (tVar 1) tNil)) σ F2 H2 (isV (.int (m.tab.length : Nat))) := by
      intro σ F2 H2 h s
      have := ev_cb (F := F2) (H := H2) (ea_cons (P := isLst (m.tab.map pRow)) (ev_var h inferInstance ((inferInstance : Mn (isLst (m.tab.map pRow))).mn s hS)) inferInstance ea_nil) (ca_lenL (K := K))
      rw [List.length_map] at this
      exact this
    refine w_seq (w_set W1 (ev_rep0 (n := m.tab.length) (hlen rfl (Same.refl _)) (by omega)) fun v2 F2 H2 g2 W2 h2 => ?_)
    dsimp only
    refine w_seq (w_forI (xs := List.range (m.tab.length + 1)) (Y := fun _ i => isV (.int ((i : Nat) : Int))) W2 (ei_rng1 (ea_cons ((ev_op (hlen rfl g2.fx) ev_c inferInstance op_I0).is (w := .int ((m.tab.length + 1 : Nat) : Int)) (by congr 1)) inferInstance ea_nil) (by omega)) fun F3 H3 g3 W3 => ?_)
    have s03 := g2.fx.trans g3.fx
    refine ⟨fun i σ' F' H' => ∃ (xs : List Int) (v2 : V) (x3 x4 x5 x6 x7 x8 : Option V), σ' = [some v, some vS, some v2, x3, x4, x5, x6, x7, x8] ∧ Wr F H [] F' H' none ∧ Bnd m.tab.length xs ∧ isIn xs F' v2, ⟨_, _, _, _, _, _, _, _, rfl, W3, ⟨by simp, fun x hx => by have := (List.mem_replicate.mp hx).2; have := ok.t1; omega⟩, (inferInstance : Mn (isIn _)).mn g3.fx h2⟩, ?_, ?_⟩
    · rintro i i' vi σ' F' F4 H' H4 hi sF ⟨xs, v2, x3, x4, x5, x6, x7, x8, rfl, W4, B, hv2⟩ g4 hvi
      have W5 := W4.gro g4
      have hv2 := (inferInstance : Mn (isIn xs)).mn g4.fx hv2
      have s4 : Same F1 F4 := (s03.trans sF).trans g4.fx
      have hS4 := (inferInstance : Mn (isLst (m.tab.map pRow))).mn s4 hS
      dsimp only
      refine w_seq (w_set W5 (P := isLst ((m.tab.map (kdR xs)).map pKd)) (EvP.imp (ev_lc (xs := m.tab) (f := pRow) (p := fun _ => true) (q := fun r => pKd (kdR xs r)) (k := none) (ei_list (f := pRow) (ev_var rfl inferInstance hS4) fun _ => inferInstance) (fun _ _ _ z => by cases z) (by omega) (fun _ => inferInstance) fun r vr F5 H5 hr5 g5 s5 hvr Q5 hQ5 => ?_) fun F v h => ?_) fun vK F6 H6 g6 W6 hK => ?_)
      · have hvr : isTupD (r.map fun p => Nd.nd p) F5 vr := hvr
        have hv25 := (inferInstance : Mn (isIn xs)).mn g5.fx hv2
        refine hQ5 _ rfl et_yes fun _ => ev_cb (ea_cons (P := isLst ((kdR xs r).map fun p => Nd.nd p)) (EvP.imp (ev_lc (xs := r) (f := fun p : Pt => Nd.nd p) (p := fun _ => true) (q := fun p : Pt => (Nd.nd ((xs.getD p.1.toNat 0, p.2) : Pt) : Pr)) (k := none) (ei_tupD (f := fun p : Pt => Nd.nd p) (ev_var rfl inferInstance hvr) fun _ => inferInstance) (fun _ _ _ z => by cases z) (by have := hl3 r hr5; omega) (fun _ => inferInstance) fun p vp F7 H7 hp g7 s7 hvp Q7 hQ7 => ?_) fun F v h => ?_) inferInstance ea_nil) (ca_tupL inferInstance)
        · have hvp : isTup [isV (.int p.1), isV (.int p.2)] F7 vp := hvp
          refine tg_tup2 s7 hvp fun vt vq ht hq => ?_
          obtain rfl : vt = _ := ht
          obtain rfl : vq = _ := hq
          have hv27 := (inferInstance : Mn (isIn xs)).mn g7.fx hv25
          have hr7 := ok.rg r hr5 p hp
          exact hQ7 _ rfl et_yes fun _ => ev_tup (Ps := [isV (.int (xs.getD p.1.toNat 0)), isV (.int p.2)]) (ea_cons (ev_op (ev_var (P := isIn xs) rfl inferInstance hv27) (ev_varV rfl) inferInstance (op_ixL (at_in B hr7.1 hr7.2.1).1)) inferInstance (ea_cons (ev_varV rfl) inferInstance ea_nil)) inferInstance
        · rw [List.filter_eq_self.mpr fun _ _ => rfl] at h
          unfold kdR
          rw [List.map_map]
          exact h
      · rw [List.filter_eq_self.mpr fun _ _ => rfl] at h
        rw [List.map_map]
        exact h
      · dsimp only
        refine w_set W6 (ev_lc (xs := m.tab.map (kdR xs)) (f := pKd) (p := fun _ => true) (q := fun _ => isEx (fun j : Nat => isV (.int (j : Nat))) fun j => j < (m.tab.map (kdR xs)).length) (k := none) (ei_list (f := pKd) (ev_var rfl inferInstance hK) fun _ => inferInstance) (fun _ _ _ z => by cases z) (by rw [List.length_map]; omega) (fun _ => inferInstance) fun r vr F8 H8 hr8 g8 s8 hvr Q8 hQ8 => ?_) fun v9 F9 H9 g9 W9 h9 => ?_
        · have hvr : pKd r F8 vr := hvr
          have hK8 := (inferInstance : Mn (isLst ((m.tab.map (kdR xs)).map pKd))).mn g8.fx hK
          exact hQ8 _ rfl et_yes fun _ => ev_indexD (ev_var rfl inferInstance hK8) (ev_var rfl inferInstance hvr) hr8
        · rw [List.filter_eq_self.mpr fun _ _ => rfl] at h9
          obtain ⟨a, vs, rfl, ha, hp⟩ := h9
          obtain ⟨ys, h1, h2, h3⟩ := exInts hp
          rw [List.length_map] at h1 h2
          exact ⟨F9, ((sF.trans g4.fx).trans g6.fx).trans g9.fx, W9.sub, ys, _, _, _, _, _, _, _, rfl, W9, ⟨h1, h2⟩, ⟨a, vs, rfl, ha, h3⟩⟩
    · rintro σ' F' H' sF ⟨xs, v2, x3, x4, x5, x6, x7, x8, rfl, W4, B, hv2⟩
      dsimp only
      refine w_ret W4 (ev_var (P := isIn xs) rfl inferInstance hv2) fun v10 F10 H10 g10 W10 h10 => ?_
      exact k v10 F10 H10 W10.gr ⟨xs, B, h10⟩
end
end EL

set_option Elab.async false
set_option linter.all false
set_option maxRecDepth 100000
set_option maxHeartbeats 1000000
/-! the minimized machine. Plain. -/
namespace EL
open PySem
def mnR (xs ks : List Int) (r : List Pt) : List Pt := r.map fun p => (((ks.idxOf (xs.getD p.1.toNat 0) : Nat) : Int), p.2)
def mnM (m : Mach) (xs ks : List Int) : Mach := { al := m.al, tab := ks.map fun s => mnR xs ks (m.tab.getD s.toNat []), st := 0 }
structure Mini (m m' : Mach) : Prop where
  al : m'.al = m.al
  ok : MOk m'
  low : Low m 2 → Low m' 2
theorem mini_of {m : Mach} {xs ks : List Int} (ok : MOk m) (nd : ks.Nodup) (rg : ∀ k ∈ ks, 0 ≤ k ∧ k < (m.tab.length : Int)) (ne : ks ≠ []) (cl : ∀ k ∈ ks, ∀ p ∈ m.tab.getD k.toNat [], xs.getD p.1.toNat 0 ∈ ks) : Mini m (mnM m xs ks) := by
  have hl : (mnM m xs ks).tab.length = ks.length := by show (ks.map _).length = _; rw [List.length_map]
  have hle := int_range nd rg
  have h1 : 1 ≤ ks.length := by
    cases ks with
    | nil => exact absurd rfl ne
    | cons _ _ => simp
  have h2 := ok.t2
  have row : ∀ r ∈ (mnM m xs ks).tab, ∃ s ∈ ks, ∃ r0 ∈ m.tab, m.tab.getD s.toNat [] = r0 ∧ r = mnR xs ks r0 := fun r hr => by
    obtain ⟨s, hs, rfl⟩ := List.mem_map.mp hr
    obtain ⟨r0, _, h4, h5⟩ := ok.row (rg s hs).1 (rg s hs).2
    exact ⟨s, hs, r0, h4, h5, by rw [h5]⟩
  refine ⟨rfl, ⟨ok.al, by rw [hl]; exact h1, by rw [hl]; omega, fun r hr => ?_, fun r hr p hp => ?_, Int.le_refl _, by rw [hl]; show (0 : Int) < _; omega⟩, fun low r hr p hp => ?_⟩
  · obtain ⟨s, hs, r0, hr0, _, rfl⟩ := row r hr
    unfold mnR
    rw [List.length_map]
    exact ok.wd r0 hr0
  · obtain ⟨s, hs, r0, hr0, e, rfl⟩ := row r hr
    obtain ⟨p0, hp0, rfl⟩ := List.mem_map.mp hp
    have := ok.rg r0 hr0 p0 hp0
    have hm := cl s hs p0 (by rw [e]; exact hp0)
    have hi := List.idxOf_lt_length_of_mem hm
    rw [hl]
    exact ⟨by show (0 : Int) ≤ ((_ : Nat) : Int); omega, by show ((_ : Nat) : Int) < _; omega, this.2.2.1, this.2.2.2⟩
  · obtain ⟨s, hs, r0, hr0, e, rfl⟩ := row r hr
    obtain ⟨p0, hp0, rfl⟩ := List.mem_map.mp hp
    exact low r0 hr0 p0 hp0
end EL

set_option Elab.async false
set_option linter.all false
set_option maxRecDepth 100000
set_option maxHeartbeats 1000000
/-! rules for minimized -/
namespace EL
open PySem PySem.Spec PyProof.Rows L2
section
variable {K : PySem.W.Frag} {F0 H0 F H : Hp} {L : List (Addr × HO)} {σ : L2.St} {D : Ends} {k : Lk} {tk tv te ta : TE} {P Pe : Pr}
/-- x, y = ({k: v}, [e]), by way of the tuple -/
theorem w_tupDisp {N : Type} [DecidableEq N] [nn : Nd N] {n : N} {i j : Nat} (W : Wr F0 H0 L F H k) (hk : EvP tk σ F H (Nd.nd n)) (hv : EvP tv σ F H P) (mP : Mn P) (he : EvP te σ F H Pe)
    (c : ∀ p q v w F1 H1, Same F F1 → Wr F0 H0 ((q, .lst [w]) :: (p, Nd.dic [(n, v)]) :: L) F1 H1 k → P F1 v → Pe F1 w → D.nx ((σ.set i (some (.ref p))).set j (some (.ref q))) H1) :
    tAsg (tTup (tCons (tDisp1 (Nd.dic ([] : List (N × V))) tk tv) (tCons (tLst (tCons te tNil)) tNil))) (gTup K 2 (gCons (gName i) (gCons (gName j) gNil))) D σ H := fun p hp => by
  have W1 := W.new hp (isDct_notTup (nn.dct []))
  refine hk _ _ (Gr.new hp) W1.sub _ fun x F2 H2 g2 px => ?_
  have W2 := W1.gro g2
  refine hv _ _ ((Gr.new hp).trans g2) W2.sub _ fun y F3 H3 g3 py => ?_
  have W3 := W2.gro g3
  have dp := nn.put (n := n) (y := y) (W3.at (j := 0) rfl) (by simp) W3.sub ((nn.mnd n).mn g3.fx px) (Nat.lt_of_le_of_lt (Nat.zero_le _) (by decide : 0 < sizeLine))
  refine ⟨_, dp, ?_⟩
  have W4 : Wr F0 H0 ((p, Nd.dic [(n, y)]) :: L) F3 (upd H3 p (Nd.dic [(n, y)])) k := W3.set (j := 0) rfl (isDct_notTup (nn.dct _))
  have s3 : Same F F3 := (g2.trans g3).fx
  have g4 : Gr F H F3 (upd H3 p (Nd.dic [(n, y)])) := by
    have gg := ((Gr.new (F := F) (H := H) (o := Nd.dic ([] : List (N × V))) hp).trans g2).trans g3
    have f3 : F3 p = none := W4.f (j := 0) rfl
    refine ⟨fun a o e => ?_, gg.fx, fun a o e1 e2 => ?_⟩
    · rw [upd_ne (fun z => by rw [z, hp] at e; cases e)]
      exact gg.ex _ _ e
    · have z : a ≠ p := fun z => by rw [z, f3] at e2; cases e2
      obtain ⟨n1, n2⟩ := (g2.trans g3).nw a o e1 e2
      rw [upd_ne z] at n2 ⊢
      exact ⟨n1, n2⟩
  refine he _ _ g4 W4.sub _ fun w F5 H5 g5 pw => ?_
  refine ⟨(by decide : 1 ≤ sizeLine), fun q hq => ⟨(by decide : 2 ≤ sizeLine), fun t ht => ?_⟩⟩
  have W6 := ((W4.gro g5).new (o := .lst [w]) hq rfl).gro (Gr.new (o := .tup [.ref p, .ref q]) ht)
  exact ⟨t, _, rfl, SqT.of upd_same, rfl, _, _, rfl, _, _, rfl, rfl, c p q y w F5 _ (s3.trans g5.fx) W6 (mP.mn g5.fx py) pw⟩
/-- for .. in rows[line.pop(0)] -/
theorem w_forPop {i j : Nat} {l : Addr} {xs : List V} {y : Int} {Ps : List Pr} {Pr1 : Pr} {g : TG} {tb : TS} (W : Wr F0 H0 L F H k) (hj : L[j]? = some (l, .lst (.int y :: xs))) (hi : σ[i]? = some (some (.ref l))) (ha : EvP ta σ F H (isLst Ps)) (mP : MnL Ps) (hat : atI Ps y = some Pr1)
    (c : ∀ v F1 H1, Same F F1 → Wr F0 H0 (L.set j (l, .lst xs)) F1 H1 k → Pr1 F1 v → tFor (iTup K (tC v)) g tb D σ H1) :
    tFor (iTup K (tOp (rIxL K) ta (tBM K "list" rPopAt (tVar i) (tCons (tC (.int 0)) tNil)))) g tb D σ H := by
  refine ha F H Gr.refl W.sub _ fun x F2 H2 g2 hx => ?_
  have W2 := W.gro g2
  have W3 : Wr F0 H0 (L.set j (l, .lst xs)) F2 (upd H2 l (.lst xs)) k := W2.set hj rfl
  refine ⟨_, hi, Or.inl ⟨rfl, _, SqL.of (W2.at hj)⟩, l, .int y :: xs, 0, 0, .int y, rfl, rfl, W2.at hj, by decide, by decide, by simp [seqIndex?], rfl, ?_⟩
  exact op_ixL (F := F2) (H := upd H2 l (.lst xs)) hat F2 (upd H2 l (.lst xs)) x (.int y) Gr.refl W3.sub hx rfl _ fun v F4 H4 g4 p => c v F4 H4 (g2.fx.trans g4.fx) (W3.gro g4) p
end
end EL

set_option Elab.async false
set_option linter.all false
set_option maxRecDepth 100000
set_option maxHeartbeats 1000000
/-! the numbers dict of minimized -/
namespace EL
open PySem PySem.Spec PyProof.Rows L2
def ixs (ks : List Int) : List (Int × V) := ks.mapIdx fun i k => (k, V.int (i : Int))
theorem ixs_keys (ks : List Int) : (ixs ks).map (·.1) = ks := by
  unfold ixs
  refine List.ext_getElem? fun i => ?_
  rw [List.getElem?_map, List.getElem?_mapIdx]
  cases ks[i]? <;> rfl
theorem ixs_snoc (ks : List Int) (k : Int) : ixs (ks ++ [k]) = ixs ks ++ [(k, V.int (ks.length : Int))] := by
  unfold ixs
  rw [List.mapIdx_append]
  simp
theorem putA_new {N α : Type} [DecidableEq N] {y : α} : ∀ {l : List (N × α)} {n : N}, n ∉ l.map (·.1) → putA l n y = l ++ [(n, y)]
  | [], n, _ => rfl
  | p :: r, n, h => by
    rw [List.map_cons, List.mem_cons] at h
    have h1 : p.1 ≠ n := fun z => h (.inl z.symm)
    have h2 := putA_new (y := y) (l := r) (n := n) fun z => h (.inr z)
    unfold putA
    rw [if_neg h1, h2]
    rfl
theorem ixs_put {ks : List Int} {k : Int} (h : k ∉ ks) : putA (ixs ks) k (V.int (ks.length : Int)) = ixs (ks ++ [k]) := by
  rw [putA_new (by rw [ixs_keys]; exact h), ixs_snoc]
theorem ixs_luk {ks : List Int} (nd : ks.Nodup) {k : Int} (hk : k ∈ ks) : luk (ixs ks) k = some (V.int ((ks.idxOf k : Nat) : Int)) := by
  refine luk_of_mem (by rw [ixs_keys]; exact nd) (List.mem_of_getElem? (i := ks.idxOf k) ?_)
  unfold ixs
  have hi := List.idxOf_lt_length_of_mem hk
  rw [List.getElem?_mapIdx, List.getElem?_eq_getElem hi, List.getElem_idxOf hi]
  rfl
theorem ixs_none {ks : List Int} {k : Int} (h : k ∉ ks) : luk (ixs ks) k = none := luk_none.mpr (by rw [ixs_keys]; exact h)
theorem ixs_len (ks : List Int) : (ixs ks).length = ks.length := by unfold ixs; rw [List.length_mapIdx]
end EL

set_option Elab.async false
set_option linter.all false
set_option maxRecDepth 100000
set_option maxHeartbeats 2000000
namespace EL
open PySem PySem.Spec PyProof.Rows L2
def spMin (K : PySem.W.Frag) : Sp := fun vs H Q _ => ∃ (F : Hp) (m : Mach) (v : V), vs = [v] ∧ Same F H ∧ pM K m F v ∧ MOk m ∧ Ret F H (isEx (pM K) (Mini m)) Q
def nxs (xs : List Int) (p : Pt) : Int := xs.getD p.1.toNat 0
/-- all that the state k leads to has a number -/
def ClK (m : Mach) (xs ks : List Int) (k : Int) : Prop := ∀ p ∈ m.tab.getD k.toNat [], nxs xs p ∈ ks
structure MinI (m : Mach) (xs ks ln : List Int) : Prop where
  nd : ks.Nodup
  rg : ∀ k ∈ ks, 0 ≤ k ∧ k < (m.tab.length : Int)
  ne : ks ≠ []
  ln : ∀ k ∈ ln, k ∈ ks
theorem MinI.new {m : Mach} {xs ks ln : List Int} {k : Int} (I : MinI m xs ks ln) (h : k ∉ ks) (hr : 0 ≤ k ∧ k < (m.tab.length : Int)) : MinI m xs (ks ++ [k]) (ln ++ [k]) := by
  refine ⟨List.nodup_append.mpr ⟨I.nd, by simp, fun a ha b hb e => ?_⟩, fun z hz => ?_, by simp, fun z hz => ?_⟩
  · rw [List.mem_singleton.mp hb] at e; subst e; exact h ha
  · rcases List.mem_append.mp hz with q | q
    · exact I.rg z q
    · rw [List.mem_singleton.mp q]; exact hr
  · rcases List.mem_append.mp hz with q | q
    · exact List.mem_append_left _ (I.ln z q)
    · rw [List.mem_singleton.mp q]; simp
theorem MinI.le {m : Mach} {xs ks ln : List Int} (I : MinI m xs ks ln) : ks.length ≤ m.tab.length := int_range I.nd I.rg
theorem ev_lenO {K : PySem.W.Frag} {σ : L2.St} {F H : Hp} {i : Nat} {l : Addr} {xs : List V} (hi : σ[i]? = some (some (.ref l))) (hH : H l = some (.lst xs)) : EvP (tCB (fun xs H Q => ∃ p ys, xs = [.ref p] ∧ (SqL K H p ys ∨ SqT K H p ys) ∧ Q (.int ys.length) H) (tCons (tVar i) tNil)) σ F H (isV (.int (xs.length : Nat))) := fun F1 H1 g s Q q =>
  ⟨_, hi, l, xs, rfl, .inl (SqL.of (g.ex _ _ hH)), q _ F1 H1 Gr.refl rfl⟩
theorem ev_lenDO {σ : L2.St} {F H : Hp} {i : Nat} {d : Addr} {l : List (Int × V)} (hi : σ[i]? = some (some (.ref d))) (hH : H d = some (Nd.dic l)) : EvP (tCB (fun xs H Q => ∃ a kvs, xs = [V.ref a] ∧ H a = some (.dK kvs) ∧ Q (.int kvs.length) H) (tCons (tVar i) tNil)) σ F H (isV (.int (l.length : Nat))) := fun F1 H1 g s Q q =>
  ⟨_, hi, d, _, rfl, g.ex _ _ hH, by rw [List.length_map]; exact q _ F1 H1 Gr.refl rfl⟩
theorem ev_dgetF {N : Type} [DecidableEq N] [Nd N] {σ : L2.St} {F H : Hp} {ta ty : TE} {d : Addr} {od : Obj} {l : List (N × V)} {n : N} {v : V} (h : H d = some (.frz od (Nd.dic l))) (hd : EvP ta σ F H (isV (.ref d))) (hy : EvP ty σ F H (Nd.nd n)) (hl : luk l n = some v) : EvP (tDGet ta ty) σ F H (isV v) := fun F1 H1 g s Q q =>
  hd F1 H1 g s _ fun x F2 H2 g2 e => hy F2 H2 (g.trans g2) (s.gr g2) _ fun y F3 H3 g3 py => by
    obtain rfl : x = _ := e
    have hH := ((g.trans g2).trans g3).ex _ _ h
    have dg := Nd.get (.inr ⟨od, hH⟩) ((s.gr g2).gr g3) py
    rw [hl] at dg
    exact ⟨d, v, rfl, dg, q v F3 H3 (g2.trans g3) rfl⟩
theorem sc_minimized : FnScope ["machine", "same", "numbers", "line", "target", "priority", "states", "state"] ["machine"] (defScope sMinimized) := ⟨rfl, rfl, rfl, by decide +kernel, rfl, by decide +kernel, by decide +kernel⟩
section
variable {P : Program} {w : World} {K : PySem.W.Frag} {mg : Str → Option Value} {base : Heap}
theorem ok_minimized (E : Tops K mg) : Cal P w K mg base 8 "minimized" ["machine"] (spMin K) := by
  have c_mstates : Cam P w K mg base 1 "states" ["self"] (spMStates K) := ok_mstates E
  have c_mletters : Cam P w K mg base 1 "letters" ["self"] (spMLet K) := ok_mletters E
  have c_mstart : Cam P w K mg base 1 "start" ["self"] (spMSta K) := ok_mstart E
  have c_init : CaI P w K mg base 3 (spInit K) := ok_minit E
  have c_behaviours : Cal P w K mg base 6 "behaviours" ["machine"] (spBeh K) := ok_behaviours E
  refine Cal.of (k := 7) E.f_Minimized E.g_minimized sc_minimized (fun _ _ _ _ _ _ us hl => match us, hl with | [_], _ => rfl) (fun vs H Q Ex h => ?_) (fun cdv A outer s H vs Q Ex hr h => ?_)
  · obtain ⟨F, m, v, rfl, _⟩ := h
    rfl
  · obtain ⟨F, m, v, rfl, s0, hm, ok, k⟩ := h
    refine ⟨_, (pss_cons (ps_set (i := 1) sc_minimized.nd rfl (.inr rfl) (pe_cal c_behaviours (hr.mono (by omega)) rfl (pa_cons (pv 0) pa_nil)))
      (pss_cons (ps_asg (pe_tup (pa_cons (pe_disp1 (nn := ndInt) (hu_of hr) (pe_ix (ix_listK (K := K) rfl) (pv 1) (pe_cam0K (K := K) rfl c_mstart (hr.mono (by omega)) (pv 0)) (fun _ _ => rfl)) pe_int) (pa_cons (pe_lst (pa_cons (pe_ix (ix_listK (K := K) rfl) (pv 1) (pe_cam0K (K := K) rfl c_mstart (hr.mono (by omega)) (pv 0)) (fun _ _ => rfl)) pa_nil)) pa_nil))) (pg_tupK (K := K) (n := 2) rfl rfl (pgs_cons (pg_name (i := 2) sc_minimized.nd rfl (.inr rfl)) (pgs_cons (pg_name (i := 3) sc_minimized.nd rfl (.inl rfl)) pgs_nil))))
      (pss_cons (ps_while PassesOwn.never (pt_cmpR op_gt (pe_callB (call_len_seqK (K := K) rfl) (by rfl) E.n_len bt_len (pa_cons (pv 3) pa_nil)) pe_int (nomark _))
        (pss_one (ps_for PassesOwn.never rfl (pi_tupK (K := K) rfl (pe_ix (ix_listK (K := K) rfl) (pe_cam0K (K := K) rfl c_mstates (hr.mono (by omega)) (pv 0)) (pe_bmK (K := K) rfl PySem.F.plainAttrs_list PySem.F.slot_list_pop PySem.F.type_list_pop mt_popAt (pv 3) (pa_cons pe_int pa_nil)) (fun _ _ => rfl))) (pg_tupK (K := K) (n := 2) rfl rfl (pgs_cons (pg_name (i := 4) sc_minimized.nd rfl (.inl rfl)) (pgs_cons (pg_name (i := 5) sc_minimized.nd rfl (.inl rfl)) pgs_nil)))
          (pss_one (ps_if (pt_cmp (pc_dnotin (hu_of hr) (pe_ix (ix_listK (K := K) rfl) (pv 1) (pv 4) (fun _ _ => rfl)) (pv 2)))
            (pss_cons (ps_dput (hu_of hr) (pv 2) (pe_ix (ix_listK (K := K) rfl) (pv 1) (pv 4) (fun _ _ => rfl)) (pe_callB call_lenD (by rfl) E.n_len bt_len (pa_cons (pv 2) pa_nil)) rfl)
            (pss_one (ps_expr (pe_bmK (K := K) rfl PySem.F.plainAttrs_list PySem.F.slot_list_append PySem.F.type_list_append mt_append (pv 3) (pa_cons (pe_ix (ix_listK (K := K) rfl) (pv 1) (pv 4) (fun _ _ => rfl)) pa_nil)))))
            pss_nil)))))
      (pss_cons (ps_set (i := 6) sc_minimized.nd rfl (.inl rfl) (pe_lst pa_nil))
      (pss_cons (ps_lock (ps_for PassesOwn.never rfl (pi_keys (pv 2)) (pg_name (i := 7) sc_minimized.nd rfl (.inl rfl))
        (pss_one (ps_expr (pe_bmK (K := K) rfl PySem.F.plainAttrs_list PySem.F.slot_list_append PySem.F.type_list_append mt_append (pv 6) (pa_cons (pe_callTy (call_tupD (K := K) rfl) (by rfl) E.n_tuple bt_tuple (pa_cons (by exact pe_lc (own := [("target", 4), ("priority", 5)]) rfl sc_minimized.nd (pi_tupK (K := K) rfl (pe_ix (ix_listK (K := K) rfl) (pe_cam0K (K := K) rfl c_mstates (hr.mono (by omega)) (pv 0)) (pv 7) (fun _ _ => rfl))) (blkOk_by (N := ["machine", "same", "numbers", "line", "target", "priority", "states", "state"]) (sc := defScope sMinimized) (by decide +kernel)) (fun _ _ _ _ _ => (pg_tupK (K := K) (n := 2) rfl rfl (pgs_cons (pg_name (i := 4) sc_minimized.nd rfl (.inl rfl)) (pgs_cons (pg_name (i := 5) sc_minimized.nd rfl (.inl rfl)) pgs_nil)))) (fun _ _ _ _ _ => pts_nil) (fun _ _ _ _ _ => (pe_tup (pa_cons (pe_dget (hu_of hr) (pv 2) (pe_ix (ix_listK (K := K) rfl) (pv 1) (pv 4) (fun _ _ => rfl)) (fun _ _ => rfl)) (pa_cons (pv 5) pa_nil))))) pa_nil)) pa_nil))))))
      (pss_one (ps_ret (pe_mach0K (K := K) rfl c_init (hr.mono (by omega)) rfl (pa_cons (pe_cam0K (K := K) rfl c_mletters (hr.mono (by omega)) (pv 0)) (pa_cons (pv 6) pa_nil)))))))))), ?_⟩
    have W0 := Wr.start s0
    have ht2 := ok.t2
    refine w_seq (w_set W0 (P := isEx isIn (Bnd m.tab.length)) (ev_call W0.same (ea_cons (P := pM K m) (ev_var rfl inferInstance hm) inferInstance ea_nil) fun F1 H1 vs Q1 g1 s1 hvs r1 => ?_) fun v1 F1 H1 g1 W1 ⟨xs, B, h1⟩ => ?_)
    · cases hvs with
      | cons h1 hvs =>
        cases hvs
        exact ⟨F1, m, _, rfl, s1, h1, ok, r1⟩
    have hm1 := (inferInstance : Mn (pM K m)).mn g1.fx hm
    have hst := at_in B ok.s1 ok.s2
    have est : ∀ {σ : L2.St} {F2 H2 : Hp}, σ[0]? = some (some v) → σ[1]? = some (some v1) → Same F1 F2 → EvP (tOp (rIxL K) (tVar 1) (tMeth (MC K) "start" (spMSta K) [] E0 (tVar 0) tNil)) σ F2 H2 (isV (.int (xs.getD m.st.toNat 0))) := by
      intro σ F2 H2 e0 e1 s2
      exact ev_op (ev_var (P := isIn xs) e1 inferInstance ((inferInstance : Mn (isIn xs)).mn s2 h1)) (ev_camS (R := isV (.int m.st)) (ev_var e0 inferInstance ((inferInstance : Mn (pM K m)).mn s2 hm1)) ea_nil fun F1 H1 x vs Q1 g1 s1 hx hvs r1 => by
        cases hvs
        exact ⟨F1, m, x, rfl, s1, hx, r1⟩) inferInstance (op_ixL hst.1)
    dsimp only
    refine w_seq (w_tupDisp (N := Int) (n := xs.getD m.st.toNat 0) (P := isV (.int 0)) (Pe := isV (.int (xs.getD m.st.toNat 0))) W1 (est rfl rfl (Same.refl _)) ev_c inferInstance (est rfl rfl (Same.refl _)) fun pD pL v0 w0 F2 H2 s2 W2 e0 e1 => ?_)
    obtain rfl : v0 = .int 0 := e0
    obtain rfl : w0 = .int (xs.getD m.st.toNat 0) := e1
    dsimp only
    have hn1 : ∀ ks ln, MinI m xs ks ln → ks.length ≤ 3 := fun ks ln I => Nat.le_trans I.le ht2
    refine w_seq (w_while (fun mm σ' F' H' => ∃ (ks ln : List Int) (x4 x5 : Option V), σ' = [some v, some v1, some (.ref pD), some (.ref pL), x4, x5, none, none] ∧ Same F2 F' ∧ Wr F H [(pL, .lst (ln.map V.int)), (pD, Nd.dic (ixs ks))] F' H' none ∧ MinI m xs ks ln ∧ (∀ k ∈ ks, k ∈ ln ∨ ClK m xs ks k) ∧ mm = ln.length + 2 * (m.tab.length - ks.length) ∧ ln.length ≤ 100 + 2 * ks.length) W2.sub _ ⟨[xs.getD m.st.toNat 0], [xs.getD m.st.toNat 0], _, _, rfl, Same.refl _, W2, ⟨by simp, fun z hz => by rw [List.mem_singleton.mp hz]; exact hst.2, by simp, fun z hz => hz⟩, fun z hz => .inl hz, rfl, by simp⟩ ?_)
    rintro mm σ' F' H' sb ⟨ks, ln, x4, x5, rfl, s3, W3, I, cov, hmm, hlb⟩
    refine ⟨decide ((ln.length : Int) > 0), et_test ((ev_op (ev_lenO rfl (W3.at (j := 0) rfl)) ev_c inferInstance op_I0).is (by rw [List.length_map])), fun hb F4 H4 g4 => ?_, fun hb F4 H4 g4 => ?_⟩
    · obtain ⟨y, lr, rfl⟩ : ∃ y lr, ln = y :: lr := by
        cases ln with
        | nil => exact absurd (of_decide_eq_true hb) (by simp)
        | cons y lr => exact ⟨y, lr, rfl⟩
      have W4 := W3.gro g4
      have s4 : Same F1 _ := (s2.trans s3).trans g4.fx
      have hm4 := (inferInstance : Mn (pM K m)).mn s4 hm1
      have hy := I.rg y (I.ln y List.mem_cons_self)
      obtain ⟨r, hr1, hrm, hrd⟩ := ok.row hy.1 hy.2
      have hat : atI (m.tab.map pRow) y = some (pRow r) := by
        have := atI_nat (j := y.toNat) (xs := m.tab.map pRow) (by rw [List.getElem?_map, hr1]; rfl)
        rw [Int.toNat_of_nonneg hy.1] at this
        exact this
      refine w_forPop (j := 0) (l := pL) (xs := lr.map V.int) (y := y) W4 rfl rfl (ev_camS (R := isLst (m.tab.map pRow)) (ev_var rfl inferInstance hm4) ea_nil fun F1 H1 x vs Q1 g1 s1 hx hvs r1 => by
        cases hvs
        exact ⟨F1, m, x, rfl, s1, hx, r1⟩) inferInstance hat fun vr F5 H5 s5 W5 hvr => ?_
      have hvr : isTupD (r.map fun p => Nd.nd p) F5 vr := hvr
      refine w_forI (xs := r) (Y := fun _ (p : Pt) => Nd.nd p) W5 (ei_tupD (f := fun p : Pt => Nd.nd p) (ev_lit inferInstance hvr) fun _ => inferInstance) fun F6 H6 g6 W6 => ?_
      refine ⟨fun j σ' F' H' => ∃ (ks' ln' : List Int) (x4 x5 : Option V), σ' = [some v, some v1, some (.ref pD), some (.ref pL), x4, x5, none, none] ∧ Wr F H [(pL, .lst (ln'.map V.int)), (pD, Nd.dic (ixs ks'))] F' H' none ∧ MinI m xs ks' ln' ∧ (∀ k ∈ ks, k ∈ ks') ∧ (∀ k ∈ ks', k ∈ ln' ∨ k = y ∨ ClK m xs ks' k) ∧ (∀ j' p, j' < j → r[j']? = some p → nxs xs p ∈ ks') ∧ ln'.length + 2 * (m.tab.length - ks'.length) < mm ∧ ln'.length ≤ 100 + 2 * ks'.length, ⟨ks, lr, _, _, rfl, W6, ⟨I.nd, I.rg, I.ne, fun k hk => I.ln k (List.mem_cons_of_mem _ hk)⟩, fun k hk => hk, fun k hk => ?_, fun j' p h => absurd h (Nat.not_lt_zero _), ?_, ?_⟩, ?_, ?_⟩
      · rcases cov k hk with q | q
        · rcases List.mem_cons.mp q with z | z
          · exact .inr (.inl z)
          · exact .inl z
        · exact .inr (.inr q)
      · simp only [List.length_cons] at hmm; omega
      · simp only [List.length_cons] at hlb; omega
      · rintro j p vp σ' F' F8 H' H8 hj s7 ⟨ks', ln', x4, x5, rfl, W7, I', hsub, cov', hdone, hms, hlb'⟩ g8 hvp
        have W8 := W7.gro g8
        have hvp : isTup [isV (.int p.1), isV (.int p.2)] F8 vp := hvp
        refine tg_tup2 W8.sub hvp fun vt vq ht hq => ?_
        obtain rfl : vt = _ := ht
        obtain rfl : vq = _ := hq
        have hp := ok.rg r hrm p (List.mem_of_getElem? hj)
        have s8 : Same F1 F8 := (((s4.trans s5).trans g6.fx).trans s7).trans g8.fx
        have hat2 := at_in B hp.1 hp.2.1
        have esm : ∀ {F9 H9 : Hp}, Same F8 F9 → EvP (tOp (rIxL K) (tVar 1) (tVar 4)) [some v, some v1, some (.ref pD), some (.ref pL), some (.int p.1), some (.int p.2), none, none] F9 H9 (isV (.int (nxs xs p))) := fun s9 =>
          ev_op (ev_var (P := isIn xs) rfl inferInstance ((inferInstance : Mn (isIn xs)).mn (s8.trans s9) h1)) (ev_varV rfl) inferInstance (op_ixL hat2.1)
        dsimp only
        refine w_if W8 (et_B (ev_dninO (N := Int) (n := nxs xs p) (W8.at (j := 1) rfl) (esm (Same.refl _)) (ev_varV rfl))) (fun hb F9 H9 g9 W9 => ?_) fun hb F9 H9 g9 W9 => ?_
        · have hni : nxs xs p ∉ ks' := fun z => by
            rw [ixs_luk I'.nd z] at hb; cases hb
          have hkl := I'.le
          have I2 := I'.new hni hat2.2
          have hkl2 := I2.le
          rw [List.length_append] at hkl2
          refine w_seq (w_dput (N := Int) W9 (j := 1) (n := nxs xs p) (P := isV (.int (ks'.length : Nat))) rfl (by rw [ixs_keys]; exact I'.nd) (by rw [ixs_len]; omega) (ev_varV rfl) (esm g9.fx) ((ev_lenDO rfl (W9.at (j := 1) rfl)).is (by rw [ixs_len])) inferInstance fun vv F10 H10 g10 W10 ev => ?_)
          obtain rfl : vv = .int (ks'.length : Nat) := ev
          rw [ixs_put hni] at W10 ⊢
          refine w_app W10 (j := 0) (P := isV (.int (nxs xs p))) rfl (ev_varV rfl) (esm (g9.fx.trans g10.fx)) (by rw [List.length_map]; omega) fun va F11 H11 g11 W11 ea => ?_
          obtain rfl : va = .int (nxs xs p) := ea
          refine ⟨F11, (((s7.trans g8.fx).trans g9.fx).trans g10.fx).trans g11.fx, W11.sub, ks' ++ [nxs xs p], ln' ++ [nxs xs p], _, _, rfl, by rw [List.map_append]; exact W11, I2, fun k hk => List.mem_append_left _ (hsub k hk), fun k hk => ?_, fun j' p' lt e => ?_, ?_, ?_⟩
          · rcases List.mem_append.mp hk with z | z
            · rcases cov' k z with q | q | q
              · exact .inl (List.mem_append_left _ q)
              · exact .inr (.inl q)
              · exact .inr (.inr fun p hp => List.mem_append_left _ (q p hp))
            · exact .inl (List.mem_append_right _ z)
          · rcases Nat.lt_succ_iff_lt_or_eq.mp lt with z | z
            · exact List.mem_append_left _ (hdone j' p' z e)
            · subst z
              rw [hj] at e
              cases e
              simp
          · simp only [List.length_append, List.length_singleton] at hkl2 ⊢; omega
          · simp only [List.length_append, List.length_singleton]; omega
        · have hin : nxs xs p ∈ ks' := by
            by_cases z : nxs xs p ∈ ks'
            · exact z
            · rw [ixs_none z] at hb; cases hb
          refine ⟨F9, (s7.trans g8.fx).trans g9.fx, W9.sub, ks', ln', _, _, rfl, W9, I', hsub, cov', fun j' p' lt e => ?_, hms, hlb'⟩
          rcases Nat.lt_succ_iff_lt_or_eq.mp lt with z | z
          · exact hdone j' p' z e
          · subst z
            rw [hj] at e
            cases e
            exact hin
      · rintro σ' F' H' s7 ⟨ks', ln', x4, x5, rfl, W7, I', hsub, cov', hdone, hms, hlb'⟩
        refine ⟨_, F', hms, W7.sub, ks', ln', _, _, rfl, ((s3.trans g4.fx).trans s5).trans (g6.fx.trans s7), W7, I', fun k hk => ?_, rfl, hlb'⟩
        rcases cov' k hk with z | z | z
        · exact .inl z
        · refine .inr fun p hp => ?_
          rw [z, hrd] at hp
          obtain ⟨j', hj'⟩ := List.getElem?_of_mem hp
          exact hdone j' p (List.getElem?_eq_some_iff.mp hj').1 hj'
        · exact .inr z
    · have hln : ln = [] := by
        cases ln with
        | nil => rfl
        | cons y lr => exact absurd (of_decide_eq_false hb) (by simp only [List.length_cons]; omega)
      subst hln
      have cl : ∀ k ∈ ks, ClK m xs ks k := fun k hk => (cov k hk).resolve_left (by simp)
      have MM : Mini m (mnM m xs ks) := mini_of ok I.nd I.rg I.ne cl
      have W4 := W3.gro g4
      have s4 := (s2.trans s3).trans g4.fx
      have hk3 := hn1 _ _ I
      dsimp only
      refine w_seq (w_newL W4 fun S H6 W6 => ?_)
      dsimp only
      refine w_seq (w_forKO (l := ixs ks) (i0 := 2) W6 rfl rfl fun od W7 => ?_)
      refine ⟨fun i σ' F' H' => ∃ (vs : List V) (x4 x5 x7 : Option V), σ' = [some v, some v1, some (.ref pD), some (.ref pL), x4, x5, some (.ref S), x7] ∧ Wr F H [(S, .lst vs), (pL, .lst []), (pD, .frz od (Nd.dic (ixs ks)))] F' H' none ∧ PrL F' (((mnM m xs ks).tab.take i).map pRow) vs, ⟨[], _, _, _, rfl, W7, by rw [List.take_zero]; exact .nil⟩, ?_, ?_, ?_⟩
      · rintro i σ' F' H' ⟨vs, x4, x5, x7, rfl, W8, _⟩
        exact W8.at (j := 2) rfl
      · rintro i n wv vn σ' F' F8 H' hi s7 ⟨vs, x4, x5, x7, rfl, W8, hvs⟩ g8 hvn
        obtain rfl : vn = .int n := hvn
        have W9 := W8.gro g8
        have hik : ks[i]? = some n := by
          have := congrArg (fun z => z[i]?) (ixs_keys ks)
          simp only [List.getElem?_map, hi] at this
          exact this.symm
        have hnk := List.mem_of_getElem? hik
        have hy := I.rg n hnk
        obtain ⟨r, hr1, hrm, hrd⟩ := ok.row hy.1 hy.2
        have hat : atI (m.tab.map pRow) n = some (isTupD (r.map fun p => Nd.nd p)) := by
          have := atI_nat (j := n.toNat) (xs := m.tab.map pRow) (by rw [List.getElem?_map, hr1]; rfl)
          rw [Int.toNat_of_nonneg hy.1] at this
          exact this
        have s8 := (s4.trans s7).trans g8.fx
        have hm9 := (inferInstance : Mn (pM K m)).mn s8 hm1
        have hvs9 := (mnl_map (fun _ => inferInstance) _ : MnL (((mnM m xs ks).tab.take i).map pRow)).mn g8.fx hvs
        have hrl : r.length ≤ 3 := by
          rw [ok.wd r hrm]
          show m.al.cps.toList.length ≤ 3
          rw [Array.length_toList]
          exact (alph_size ok.al).2
        have hvl : vs.length ≤ 3 := by
          have := hvs.length
          rw [List.length_map, List.length_take] at this
          have htl : (mnM m xs ks).tab.length = ks.length := by show (ks.map _).length = _; rw [List.length_map]
          omega
        dsimp only
        refine w_app W9 (j := 0) (P := pRow (mnR xs ks r)) rfl (ev_varV rfl) (ev_cb (ea_cons (P := isLst ((mnR xs ks r).map fun p => Nd.nd p)) (EvP.imp (ev_lc (xs := r) (f := fun p : Pt => Nd.nd p) (p := fun _ => true) (q := fun p : Pt => (Nd.nd ((((ks.idxOf (nxs xs p) : Nat) : Int), p.2) : Pt) : Pr)) (k := none) (ei_tupD (f := fun p : Pt => Nd.nd p) (ev_op (ev_camS (R := isLst (m.tab.map pRow)) (ev_var rfl inferInstance hm9) ea_nil fun F1 H1 x vs Q1 g1 s1 hx hvs r1 => by
            cases hvs
            exact ⟨F1, m, x, rfl, s1, hx, r1⟩) (ev_varV rfl) inferInstance (op_ixL hat)) fun _ => inferInstance) (fun _ _ _ z => by cases z) (by omega) (fun _ => inferInstance) fun p vp F10 H10 hp g10 s10 hvp Q10 hQ10 => ?_) fun F v h => ?_) inferInstance ea_nil) (ca_tupDL inferInstance)) (by omega) fun va F11 H11 g11 W11 ha => ?_
        · have hvp : isTup [isV (.int p.1), isV (.int p.2)] F10 vp := hvp
          refine tg_tup2 s10 hvp fun vt vq ht hq => ?_
          obtain rfl : vt = _ := ht
          obtain rfl : vq = _ := hq
          have hp2 := ok.rg r hrm p hp
          have hat2 := at_in B hp2.1 hp2.2.1
          have hin : nxs xs p ∈ ks := cl n hnk p (by rw [hrd]; exact hp)
          exact hQ10 _ rfl et_yes fun _ => ev_tup (Ps := [isV (.int ((ks.idxOf (nxs xs p) : Nat) : Int)), isV (.int p.2)]) (ea_cons (ev_dgetF (n := nxs xs p) (g10.ex _ _ (W9.at (j := 2) rfl)) (ev_varV rfl) (ev_op (ev_var (P := isIn xs) rfl inferInstance ((inferInstance : Mn (isIn xs)).mn (s8.trans g10.fx) h1)) (ev_varV rfl) inferInstance (op_ixL hat2.1)) (ixs_luk I.nd hin)) inferInstance (ea_cons (ev_varV rfl) inferInstance ea_nil)) inferInstance
        · rw [List.filter_eq_self.mpr fun _ _ => rfl] at h
          unfold mnR
          rw [List.map_map]
          exact h
        · refine ⟨F11, (s7.trans g8.fx).trans g11.fx, W11.sub, vs ++ [va], _, _, _, rfl, W11, ?_⟩
          have hii : (mnM m xs ks).tab[i]? = some (mnR xs ks r) := by
            show (ks.map _)[i]? = _
            rw [List.getElem?_map, hik, ← hrd]; rfl
          rw [List.take_succ, hii, List.map_append]
          exact ((mnl_map (fun _ => inferInstance) _ : MnL (((mnM m xs ks).tab.take i).map pRow)).mn g11.fx hvs9).append (.one ha)
      · rintro σ' F' H' s7 ⟨vs, x4, x5, x7, rfl, W8, hvs⟩
        have W9 : Wr F H [(S, .lst vs), (pL, .lst []), (pD, Nd.dic (ixs ks))] F' (upd H' pD (Nd.dic (ixs ks))) none := W8.set (j := 2) rfl (isDct_notTup (Nd.dct _))
        have htl : (mnM m xs ks).tab.length = ks.length := by show (ks.map _).length = _; rw [List.length_map]
        rw [List.take_of_length_le (by rw [htl, ixs_len]; exact Nat.le_refl _)] at hvs
        obtain ⟨W10, s10⟩ := W9.frz (j := 0) rfl (fun od u z => by cases z)
        have hS : isLst ((mnM m xs ks).tab.map pRow) (upd F' S (.lst vs)) (.ref S) := ⟨S, vs, rfl, upd_same, (mnl_map (fun _ => inferInstance) _ : MnL ((mnM m xs ks).tab.map pRow)).mn s10 hvs⟩
        have hm9 := (inferInstance : Mn (pM K m)).mn ((s4.trans s7).trans s10) hm1
        dsimp only
        refine w_ret W10 (ev_mach0 (m := mnM m xs ks) W10.same (ea_cons (P := isV (.str m.al)) (ev_camS (ev_var rfl inferInstance hm9) ea_nil fun F1 H1 x vs Q1 g1 s1 hx hvs r1 => by
          cases hvs
          exact ⟨F1, m, x, rfl, s1, hx, r1⟩) inferInstance (ea_cons (P := isLst ((mnM m xs ks).tab.map pRow)) (ev_var rfl inferInstance hS) inferInstance ea_nil)) rfl MM.ok) fun v10 F10 H10 g10 W11 h10 => ?_
        exact k v10 F10 H10 W11.gr ⟨mnM m xs ks, MM, h10⟩
end
end EL

set_option Elab.async false
set_option linter.all false
set_option maxRecDepth 100000
set_option maxHeartbeats 1000000
/-! what a machine says of a row; two machines that say the same. Plain. -/
namespace EL
open PySem
theorem run_app {m : Mach} : ∀ {s : Int} {a b : List Nat}, run m s (a ++ b) = run m (run m s a) b
  | _, [], _ => rfl
  | s, c :: a, b => run_app (s := (stp m s c).1) (a := a)
theorem rmx_app {m : Mach} : ∀ {s g : Int} {a b : List Nat}, rmx m s g (a ++ b) = rmx m (run m s a) (rmx m s g a) b
  | _, _, [], _ => rfl
  | s, g, c :: a, b => rmx_app (s := (stp m s c).1) (g := max g (stp m s c).2) (a := a)
theorem rmx_ge {m : Mach} : ∀ {s g : Int} {a : List Nat}, g ≤ rmx m s g a
  | _, _, [] => Int.le_refl _
  | s, g, c :: a => Int.le_trans (Int.le_max_left _ _) (rmx_ge (s := (stp m s c).1) (g := max g (stp m s c).2) (a := a))
theorem rmx_max {m : Mach} : ∀ {s g h : Int} {a : List Nat}, rmx m s (max g h) a = max g (rmx m s h a)
  | _, _, _, [] => rfl
  | s, g, h, c :: a => by
    show rmx m (stp m s c).1 (max (max g h) (stp m s c).2) a = _
    rw [Int.max_assoc]
    exact rmx_max (s := (stp m s c).1) (g := g) (h := max h (stp m s c).2) (a := a)
theorem rmx_app0 {m : Mach} {s : Int} {a b : List Nat} : rmx m s 0 (a ++ b) = max (rmx m s 0 a) (rmx m (run m s a) 0 b) := by
  have h : (0 : Int) ≤ rmx m s 0 a := rmx_ge
  rw [rmx_app, ← rmx_max, Int.max_eq_left h]
def rep (w : List Nat) : Nat → List Nat
  | 0 => []
  | n + 1 => rep w n ++ w
theorem rep_run {m : Mach} {s : Int} {w : List Nat} : ∀ n, run m s (rep w n) = itr m s w n
  | 0 => rfl
  | n + 1 => by
    show run m s (rep w n ++ w) = run m (itr m s w n) w
    rw [run_app, rep_run n]
theorem rep_app (w : List Nat) (n : Nat) : ∀ k, rep w (n + k) = rep w n ++ rep w k
  | 0 => (List.append_nil _).symm
  | k + 1 => by
    show rep w (n + k) ++ w = rep w n ++ (rep w k ++ w)
    rw [rep_app w n k, List.append_assoc]
theorem itr_add {m : Mach} {s : Int} {w : List Nat} (n k : Nat) : itr m (itr m s w n) w k = itr m s w (n + k) := by
  rw [← rep_run, ← rep_run, ← rep_run, rep_app, run_app]
theorem rep_mem {w : List Nat} : ∀ {n : Nat} {c : Nat}, c ∈ rep w n → c ∈ w
  | n + 1, c, h => (List.mem_append.mp h).elim rep_mem id
theorem rep_loop {m : Mach} {q : Int} {w : List Nat} (h : run m q w = q) : ∀ n, itr m q w n = q
  | 0 => rfl
  | n + 1 => by
    show run m (itr m q w n) w = q
    rw [rep_loop h n, h]
theorem rep_rmx {m : Mach} {q : Int} {w : List Nat} (h : run m q w = q) : ∀ n, rmx m q 0 (rep w (n + 1)) = rmx m q 0 w
  | 0 => rfl
  | n + 1 => by
    show rmx m q 0 (rep w (n + 1) ++ w) = _
    rw [rmx_app0, rep_rmx h n, rep_run, rep_loop h, Int.max_self]
/-- three states: after six turns the row of states repeats with six -/
theorem six {m : Mach} (ok : MOk m) {s : Int} {w : List Nat} (h0 : 0 ≤ s) (h1 : s < m.tab.length) (hw : ∀ c ∈ w, c ∈ m.ls) : itr m s w 12 = itr m s w 6 := by
  have hr := itr_rng ok h0 h1 hw
  have t2 := ok.t2
  have b : ∀ k, 0 ≤ itr m s w k ∧ itr m s w k < 3 := fun k => by have := hr k; omega
  have per : ∀ {a b : Nat}, itr m s w a = itr m s w b → ∀ k, itr m s w (a + k) = itr m s w (b + k) := fun h k => by rw [← itr_add, ← itr_add, h]
  have b0 := b 0
  have b1 := b 1
  have b2 := b 2
  have b3 := b 3
  have c : itr m s w 0 = itr m s w 1 ∨ itr m s w 0 = itr m s w 2 ∨ itr m s w 0 = itr m s w 3 ∨ itr m s w 1 = itr m s w 2 ∨ itr m s w 1 = itr m s w 3 ∨ itr m s w 2 = itr m s w 3 := by omega
  rcases c with c | c | c | c | c | c
  · have p := per c
    exact (p 11).symm.trans ((p 10).symm.trans ((p 9).symm.trans ((p 8).symm.trans ((p 7).symm.trans (p 6).symm))))
  · have p := per c
    exact (p 10).symm.trans ((p 8).symm.trans (p 6).symm)
  · have p := per c
    exact (p 9).symm.trans (p 6).symm
  · have p := per c
    exact (p 10).symm.trans ((p 9).symm.trans ((p 8).symm.trans ((p 7).symm.trans ((p 6).symm.trans (p 5).symm))))
  · have p := per c
    exact (p 9).symm.trans ((p 7).symm.trans (p 5).symm)
  · have p := per c
    exact (p 9).symm.trans ((p 8).symm.trans ((p 7).symm.trans ((p 6).symm.trans ((p 5).symm.trans (p 4).symm))))
/-- the greatest priority that comes again and again on u w w w .. -/
def acc (m : Mach) (u w : List Nat) : Int := rmx m (itr m (run m m.st u) w 6) 0 (rep w 6)
def EqM (m m' : Mach) : Prop := ∀ u w, (∀ c ∈ u, c ∈ m.ls) → (∀ c ∈ w, c ∈ m.ls) → w ≠ [] → acc m u w % 2 = acc m' u w % 2
theorem EqM.refl (m : Mach) : EqM m m := fun _ _ _ _ _ => rfl
theorem EqM.symm {m m' : Mach} (al : m'.al = m.al) (h : EqM m m') : EqM m' m := fun u w hu hw hn => (h u w (by unfold Mach.ls at hu ⊢; rw [← al]; exact hu) (by unfold Mach.ls at hw ⊢; rw [← al]; exact hw) hn).symm
theorem EqM.trans {m m' m2 : Mach} (al : m'.al = m.al) (h : EqM m m') (k : EqM m' m2) : EqM m m2 := fun u w hu hw hn => (h u w hu hw hn).trans (k u w (by unfold Mach.ls at hu ⊢; rw [al]; exact hu) (by unfold Mach.ls at hw ⊢; rw [al]; exact hw) hn)
section
variable {x g : Nat → Int}
theorem per_red (hx : ∀ a b, x a = x b → x (a + 1) = x (b + 1)) (hg : ∀ a b, x a = x b → g a = g b) {a b : Nat} (h : x a = x b) (lt : a < b) : ∀ n k, k ≤ n → a ≤ k → ∃ r, a ≤ r ∧ r < b ∧ g k = g r := by
  have sh : ∀ t, x (a + t) = x (b + t) := fun t => by
    induction t with
    | zero => exact h
    | succ t ih => exact hx _ _ ih
  intro n
  induction n with
  | zero => intro k h1 h2; exact ⟨k, h2, by omega, rfl⟩
  | succ n ih =>
    intro k h1 h2
    by_cases z : k < b
    · exact ⟨k, h2, z, rfl⟩
    · obtain ⟨r, r1, r2, r3⟩ := ih (k - (b - a)) (by omega) (by omega)
      refine ⟨r, r1, r2, ?_⟩
      rw [← r3]
      have := sh (k - b)
      rw [show b + (k - b) = k by omega, show a + (k - b) = k - (b - a) by omega] at this
      exact hg _ _ this.symm
theorem per_up (hx : ∀ a b, x a = x b → x (a + 1) = x (b + 1)) (hg : ∀ a b, x a = x b → g a = g b) {a b : Nat} (h : x a = x b) (lt : a < b) {k : Nat} (hk : a ≤ k) : ∀ N, ∃ r, N ≤ r ∧ a ≤ r ∧ g r = g k := by
  have sh : ∀ t, x (a + t) = x (b + t) := fun t => by
    induction t with
    | zero => exact h
    | succ t ih => exact hx _ _ ih
  intro N
  induction N with
  | zero => exact ⟨k, Nat.zero_le _, hk, rfl⟩
  | succ N ih =>
    obtain ⟨r, r1, r2, r3⟩ := ih
    refine ⟨r + (b - a), by omega, by omega, ?_⟩
    rw [← r3]
    have := sh (r - a)
    rw [show a + (r - a) = r by omega, show b + (r - a) = r + (b - a) by omega] at this
    exact (hg _ _ this).symm
/-- two ways round the same circle meet the same greatest -/
theorem per_eq (hx : ∀ a b, x a = x b → x (a + 1) = x (b + 1)) (hg : ∀ a b, x a = x b → g a = g b) {a b c d : Nat} (h : x a = x b) (lt : a < b) (h' : x c = x d) (lt' : c < d) {M M' : Int}
    (e : ∃ k, a ≤ k ∧ k < b ∧ g k = M) (l : ∀ k, a ≤ k → k < b → g k ≤ M) (e' : ∃ k, c ≤ k ∧ k < d ∧ g k = M') (l' : ∀ k, c ≤ k → k < d → g k ≤ M') : M = M' := by
  refine Int.le_antisymm ?_ ?_
  · obtain ⟨k, k1, k2, k3⟩ := e
    obtain ⟨r, r1, r2, r3⟩ := per_up hx hg h lt k1 c
    obtain ⟨t, t1, t2, t3⟩ := per_red hx hg h' lt' r r (Nat.le_refl _) r1
    have := l' t t1 t2
    omega
  · obtain ⟨k, k1, k2, k3⟩ := e'
    obtain ⟨r, r1, r2, r3⟩ := per_up hx hg h' lt' k1 a
    obtain ⟨t, t1, t2, t3⟩ := per_red hx hg h lt r r (Nat.le_refl _) r1
    have := l t t1 t2
    omega
end
theorem rep_gk {m : Mach} {s : Int} {w : List Nat} : ∀ n, (∀ k, k < n → gk m s w k ≤ rmx m s 0 (rep w n)) ∧ (0 < n → ∃ k, k < n ∧ gk m s w k = rmx m s 0 (rep w n))
  | 0 => ⟨fun k h => absurd h (Nat.not_lt_zero _), fun h => absurd h (Nat.lt_irrefl _)⟩
  | n + 1 => by
    obtain ⟨h1, h2⟩ := rep_gk (m := m) (s := s) (w := w) n
    have e : rmx m s 0 (rep w (n + 1)) = max (rmx m s 0 (rep w n)) (gk m s w n) := by
      show rmx m s 0 (rep w n ++ w) = _
      rw [rmx_app0, rep_run]
      rfl
    rw [e]
    have g0 : (0 : Int) ≤ gk m s w n := rmx_ge
    refine ⟨fun k hk => ?_, fun _ => ?_⟩
    · rcases Nat.lt_succ_iff_lt_or_eq.mp hk with z | z
      · have := h1 k z; omega
      · subst z; omega
    · by_cases z : rmx m s 0 (rep w n) ≤ gk m s w n
      · exact ⟨n, Nat.lt_succ_self _, by omega⟩
      · by_cases n0 : n = 0
        · subst n0
          exact absurd g0 (by have : rmx m s 0 (rep w 0) = 0 := rfl; omega)
        · obtain ⟨k, k1, k2⟩ := h2 (by omega)
          exact ⟨k, by omega, by omega⟩
/-- what accepts gives back -/
theorem accP_acc {m : Mach} (ok : MOk m) {u w : List Nat} (hu : ∀ c ∈ u, c ∈ m.ls) (hw : ∀ c ∈ w, c ∈ m.ls) {b : Bool} (h : AccP m u w b) : b = decide (acc m u w % 2 = 0) := by
  obtain ⟨j, n, M, lt, e, h1, h2, h3⟩ := h
  have hr := run_rng ok (l := u) ok.s1 ok.s2 hu
  unfold acc
  generalize hs : run m m.st u = s at e h1 h2 hr
  have h6 := six ok hr.1 hr.2 hw
  have hx : ∀ a b, itr m s w a = itr m s w b → itr m s w (a + 1) = itr m s w (b + 1) := fun a b h => by
    show run m (itr m s w a) w = run m (itr m s w b) w
    rw [h]
  have hg : ∀ a b, itr m s w a = itr m s w b → gk m s w a = gk m s w b := fun a b h => by
    unfold gk
    rw [h]
  obtain ⟨r1, r2⟩ := rep_gk (m := m) (s := itr m s w 6) (w := w) 6
  have eg : ∀ k, gk m (itr m s w 6) w k = gk m s w (6 + k) := fun k => by
    unfold gk
    rw [itr_add]
  have : M = rmx m (itr m s w 6) 0 (rep w 6) := by
    refine per_eq hx hg e lt h6.symm (by decide) h1 h2 ?_ fun k k1 k2 => ?_
    · obtain ⟨k, k1, k2⟩ := r2 (by decide)
      exact ⟨6 + k, by omega, by omega, by rw [← eg]; exact k2⟩
    · have := r1 (k - 6) (by omega)
      rw [eg, show 6 + (k - 6) = k by omega] at this
      exact this
  rw [h3, this]
theorem acc_eq {m m' : Mach} (ok : MOk m) (ok' : MOk m') (al : m'.al = m.al) {u w : List Nat} (hu : ∀ c ∈ u, c ∈ m.ls) (hw : ∀ c ∈ w, c ∈ m.ls) (hn : w ≠ []) (E : EqM m m') {b b' : Bool} (h : AccP m u w b) (h' : AccP m' u w b') : b = b' := by
  have els : m'.ls = m.ls := by unfold Mach.ls; rw [al]
  rw [accP_acc ok hu hw h, accP_acc ok' (by rw [els]; exact hu) (by rw [els]; exact hw) h', E u w hu hw hn]
/-- a circle's own row -/
theorem acc_loop {m : Mach} {u w : List Nat} {q : Int} (hu : run m m.st u = q) (h : run m q w = q) : acc m u w = rmx m q 0 w := by
  unfold acc
  rw [hu, rep_loop h]
  exact rep_rmx h 5
theorem MR.word {m : Mach} {q : Int} (h : MR m q) : ∃ u, (∀ c ∈ u, c ∈ m.ls) ∧ run m m.st u = q := by
  induction h with
  | st => exact ⟨[], fun c hc => (by cases hc), rfl⟩
  | @step p c _ hc ih =>
    obtain ⟨u, h1, h2⟩ := ih
    refine ⟨u ++ [c], fun d hd => ?_, by rw [run_snoc, h2]⟩
    rcases List.mem_append.mp hd with z | z
    · exact h1 d z
    · rw [List.mem_singleton.mp z]; exact hc
theorem MR.run {m : Mach} : ∀ {q : Int} {w : List Nat}, MR m q → (∀ c ∈ w, c ∈ m.ls) → MR m (EL.run m q w)
  | _, [], h, _ => h
  | q, c :: w, h, hw => MR.run (w := w) (h.step (hw c List.mem_cons_self)) fun d hd => hw d (List.mem_cons_of_mem _ hd)
end EL

set_option Elab.async false
set_option linter.all false
set_option maxRecDepth 100000
set_option maxHeartbeats 1000000
/-! no difference is: the same rows. Plain. -/
namespace EL
open PySem
def jts (m m' : Mach) (p : Pt) : List Nat → List Tag
  | [] => []
  | c :: r => (sg c, (stp m p.1 c).2, (stp m' p.2 c).2) :: jts m m' ((stp m p.1 c).1, (stp m' p.2 c).1) r
theorem bnd_mem {g : Gph Pt} {a b : Int} {u v : Pt} {t : Tag} : (t, v) ∈ adj (bnd g a b) u ↔ (t, v) ∈ adj g u ∧ t.2.1 ≤ a ∧ t.2.2 ≤ b := by
  unfold bnd
  rw [adj_sub (nc := fun _ => true) rfl, List.mem_filter]
  simp
theorem jts_le {m m' : Mach} : ∀ {w : List Nat} {p : Pt} {g g' : Int}, (∀ t ∈ jts m m' p w, t.2.1 ≤ rmx m p.1 g w ∧ t.2.2 ≤ rmx m' p.2 g' w)
  | [], p, g, g' => fun t h => by cases h
  | c :: w, p, g, g' => fun t h => by
    show t.2.1 ≤ rmx m (stp m p.1 c).1 (max g (stp m p.1 c).2) w ∧ t.2.2 ≤ rmx m' (stp m' p.2 c).1 (max g' (stp m' p.2 c).2) w
    rcases List.mem_cons.mp h with z | z
    · subst z
      refine ⟨?_, ?_⟩
      · have := rmx_ge (m := m) (s := (stp m p.1 c).1) (g := max g (stp m p.1 c).2) (a := w)
        show (stp m p.1 c).2 ≤ _
        omega
      · have := rmx_ge (m := m') (s := (stp m' p.2 c).1) (g := max g' (stp m' p.2 c).2) (a := w)
        show (stp m' p.2 c).2 ≤ _
        omega
    · exact jts_le (w := w) (p := ((stp m p.1 c).1, (stp m' p.2 c).1)) t z
theorem jts_at {m m' : Mach} : ∀ {w : List Nat} {p : Pt} {g g' : Int}, (rmx m p.1 g w = g ∨ ∃ t ∈ jts m m' p w, t.2.1 = rmx m p.1 g w) ∧ (rmx m' p.2 g' w = g' ∨ ∃ t ∈ jts m m' p w, t.2.2 = rmx m' p.2 g' w)
  | [], p, g, g' => ⟨.inl rfl, .inl rfl⟩
  | c :: w, p, g, g' => by
    obtain ⟨h1, h2⟩ := jts_at (m := m) (m' := m') (w := w) (p := ((stp m p.1 c).1, (stp m' p.2 c).1)) (g := max g (stp m p.1 c).2) (g' := max g' (stp m' p.2 c).2)
    dsimp only at h1 h2
    show (rmx m (stp m p.1 c).1 (max g (stp m p.1 c).2) w = g ∨ ∃ t ∈ ((sg c, (stp m p.1 c).2, (stp m' p.2 c).2) :: jts m m' ((stp m p.1 c).1, (stp m' p.2 c).1) w : List Tag), t.2.1 = rmx m (stp m p.1 c).1 (max g (stp m p.1 c).2) w) ∧ (rmx m' (stp m' p.2 c).1 (max g' (stp m' p.2 c).2) w = g' ∨ ∃ t ∈ ((sg c, (stp m p.1 c).2, (stp m' p.2 c).2) :: jts m m' ((stp m p.1 c).1, (stp m' p.2 c).1) w : List Tag), t.2.2 = rmx m' (stp m' p.2 c).1 (max g' (stp m' p.2 c).2) w)
    refine ⟨?_, ?_⟩
    · rcases h1 with z | ⟨t, t1, t2⟩
      · rw [z]
        by_cases q : (stp m p.1 c).2 ≤ g
        · left; omega
        · right
          exact ⟨_, List.mem_cons_self, by show (stp m p.1 c).2 = _; omega⟩
      · exact .inr ⟨t, List.mem_cons_of_mem _ t1, t2⟩
    · rcases h2 with z | ⟨t, t1, t2⟩
      · rw [z]
        by_cases q : (stp m' p.2 c).2 ≤ g'
        · left; omega
        · right
          exact ⟨_, List.mem_cons_self, by show (stp m' p.2 c).2 = _; omega⟩
      · exact .inr ⟨t, List.mem_cons_of_mem _ t1, t2⟩
section
variable {m m' : Mach} {g : Gph Pt} (ok : MOk m) (ok' : MOk m') (al : m'.al = m.al) (J : JOk m m' g)
include ok ok' al J
theorem jwk : ∀ {w : List Nat} {p : Pt}, JR m m' p → (∀ c ∈ w, c ∈ m.ls) → Wk g p (jts m m' p w) (run m p.1 w, run m' p.2 w)
  | [], p, _, _ => .nil p
  | c :: w, p, hp, hw => by
    have hc := hw c List.mem_cons_self
    refine .cons (v := ((stp m p.1 c).1, (stp m' p.2 c).1)) ?_ (jwk (w := w) (hp.step hc) fun d hd => hw d (List.mem_cons_of_mem _ hd))
    rw [J.ad p ((J.ks p).mpr hp)]
    exact List.mem_map.mpr ⟨c, hc, rfl⟩
omit ok ok' al in
theorem JR.run : ∀ {w : List Nat} {p : Pt}, JR m m' p → (∀ c ∈ w, c ∈ m.ls) → JR m m' (EL.run m p.1 w, EL.run m' p.2 w)
  | [], p, h, _ => h
  | c :: w, p, h, hw => JR.run (w := w) (h.step (hw c List.mem_cons_self)) fun d hd => hw d (List.mem_cons_of_mem _ hd)
omit ok ok' al in
theorem JR.word {p : Pt} (h : JR m m' p) : ∃ u, (∀ c ∈ u, c ∈ m.ls) ∧ EL.run m m.st u = p.1 ∧ EL.run m' m'.st u = p.2 := by
  induction h with
  | st => exact ⟨[], fun c hc => (by cases hc), rfl, rfl⟩
  | @step p c _ hc ih =>
    obtain ⟨u, h1, h2, h3⟩ := ih
    refine ⟨u ++ [c], fun d hd => ?_, by rw [run_snoc, h2], by rw [run_snoc, h3]⟩
    rcases List.mem_append.mp hd with z | z
    · exact h1 d z
    · rw [List.mem_singleton.mp z]; exact hc
theorem wk_word {a b : Int} {p q : Pt} {ts : List Tag} (h : Wk (bnd g a b) p ts q) : ∃ w, (∀ c ∈ w, c ∈ m.ls) ∧ jts m m' p w = ts ∧ q = (run m p.1 w, run m' p.2 w) := by
  induction h with
  | nil u => exact ⟨[], fun c hc => (by cases hc), rfl, rfl⟩
  | @cons u v x t ts e _ ih =>
    obtain ⟨w, h1, h2, h3⟩ := ih
    obtain ⟨_, c, hc, et, ev⟩ := J.edge ok ok' al (bnd_mem.mp e).1
    refine ⟨c :: w, fun d hd => ?_, ?_, ?_⟩
    · rcases List.mem_cons.mp hd with z | z
      · rw [z]; exact hc
      · exact h1 d z
    · show _ :: jts m m' ((stp m u.1 c).1, (stp m' u.2 c).1) w = _
      rw [← ev, h2, et]
    · rw [h3]
      show _ = (run m (stp m u.1 c).1 w, run m' (stp m' u.2 c).1 w)
      rw [ev]
omit J in
theorem jts_nn {p : Pt} (hp : InR m m' p) : ∀ {w : List Nat}, (∀ c ∈ w, c ∈ m.ls) → ∀ t ∈ jts m m' p w, (0 ≤ t.2.1 ∧ t.2.1 ≤ 3) ∧ 0 ≤ t.2.2 ∧ t.2.2 ≤ 3 := by
  intro w
  induction w generalizing p with
  | nil => intro _ t h; cases h
  | cons c w ih =>
    intro hw t h
    have hc := hw c List.mem_cons_self
    have r1 := stp_rng ok hp.1.1 hp.1.2 hc
    have r2 := stp_rng ok' hp.2.1 hp.2.2 (c := c) (by unfold Mach.ls at hc ⊢; rw [al]; exact hc)
    rcases List.mem_cons.mp h with z | z
    · subst z; exact ⟨r1.2.2, r2.2.2⟩
    · exact ih (p := ((stp m p.1 c).1, (stp m' p.2 c).1)) ⟨⟨r1.1, r1.2.1⟩, r2.1, r2.2.1⟩ (fun d hd => hw d (List.mem_cons_of_mem _ hd)) t z
omit J in
theorem jts_hit {p : Pt} (hp : InR m m' p) {w : List Nat} (hw : ∀ c ∈ w, c ∈ m.ls) (hn : w ≠ []) : (∃ t ∈ jts m m' p w, t.2.1 = rmx m p.1 0 w) ∧ ∃ t ∈ jts m m' p w, t.2.2 = rmx m' p.2 0 w := by
  have nn := jts_nn ok ok' al hp hw
  have le := jts_le (m := m) (m' := m') (w := w) (p := p) (g := 0) (g' := 0)
  obtain ⟨h1, h2⟩ := jts_at (m := m) (m' := m') (w := w) (p := p) (g := 0) (g' := 0)
  obtain ⟨t0, ht0⟩ : ∃ t, t ∈ jts m m' p w := by
    cases w with
    | nil => exact absurd rfl hn
    | cons c w => exact ⟨_, List.mem_cons_self⟩
  have a1 := nn t0 ht0
  have a2 := le t0 ht0
  refine ⟨h1.elim (fun z => ⟨t0, ht0, ?_⟩) id, h2.elim (fun z => ⟨t0, ht0, ?_⟩) id⟩
  · rw [z] at a2 ⊢; omega
  · rw [z] at a2 ⊢; omega
theorem dif_ne (h : DifG g) : ¬ EqM m m' := by
  obtain ⟨a, b, ha, hb, hab, u, t, v, u', t', v', e1, c1, x1, e2, c2, x2, c3⟩ := h
  intro E
  obtain ⟨s1, w1⟩ := (c1.2.trans c3.1).wk
  obtain ⟨s2, w2⟩ := (c2.2.trans c3.2).wk
  have W : Wk (bnd g a b) u (t :: (s1 ++ t' :: s2)) u := .cons e1 (w1.app (.cons e2 w2))
  obtain ⟨w, hw, hj, hq⟩ := wk_word ok ok' al J W
  have hu : JR m m' u := (J.edge ok ok' al (bnd_mem.mp e1).1).1
  obtain ⟨x, hx, y1, y2⟩ := hu.word (g := g) J
  have q1 : run m u.1 w = u.1 := (congrArg Prod.fst hq).symm
  have q2 : run m' u.2 w = u.2 := (congrArg Prod.snd hq).symm
  have wn : w ≠ [] := by
    intro z
    rw [z] at hj
    cases hj
  have all : ∀ z ∈ jts m m' u w, z.2.1 ≤ a ∧ z.2.2 ≤ b := fun z hz => by
    rw [hj] at hz
    obtain ⟨_, _, e, _⟩ := W.edge z hz
    exact (bnd_mem.mp e).2
  have le := jts_le (m := m) (m' := m') (w := w) (p := u) (g := 0) (g' := 0)
  have ht : t ∈ jts m m' u w := by rw [hj]; exact List.mem_cons_self
  have ht' : t' ∈ jts m m' u w := by rw [hj]; exact List.mem_cons_of_mem _ (List.mem_append_right _ List.mem_cons_self)
  obtain ⟨⟨r1, r2, r3⟩, ⟨p1, p2, p3⟩⟩ := jts_hit ok ok' al (hu.in ok ok' al) hw wn
  have f1 : rmx m u.1 0 w = a := by
    have h1 := (all r1 r2).1
    have h2 := (le t ht).1
    omega
  have f2 : rmx m' u.2 0 w = b := by
    have h1 := (all p1 p2).2
    have h2 := (le t' ht').2
    omega
  have := E x w hx hw wn
  rw [acc_loop y1 q1, acc_loop y2 q2, f1, f2] at this
  omega
theorem ne_dif (h : ¬ DifG g) : EqM m m' := by
  intro u w hu hw hn
  by_cases z : acc m u w % 2 = acc m' u w % 2
  · exact z
  · have els : m'.ls = m.ls := by unfold Mach.ls; rw [al]
    refine absurd ?_ h
    have hj0 : JR m m' (run m m.st u, run m' m'.st u) := JR.run J (p := (m.st, m'.st)) .st hu
    have hrw : ∀ c ∈ rep w 6, c ∈ m.ls := fun c hc => hw c (rep_mem hc)
    have hj : JR m m' (run m (run m m.st u) (rep w 6), run m' (run m' m'.st u) (rep w 6)) := JR.run J hj0 hrw
    have i0 := hj0.in ok ok' al
    have l1 := six ok i0.1.1 i0.1.2 hw
    have l2 := six ok' i0.2.1 i0.2.2 (w := w) (by rw [els]; exact hw)
    unfold acc at z
    rw [rep_run, rep_run] at hj
    generalize hq1 : itr m (run m m.st u) w 6 = q1 at z hj
    generalize hq2 : itr m' (run m' m'.st u) w 6 = q2 at z hj
    have g1 : run m q1 (rep w 6) = q1 := by rw [rep_run, ← hq1, itr_add]; exact l1
    have g2 : run m' q2 (rep w 6) = q2 := by rw [rep_run, ← hq2, itr_add]; exact l2
    have rn : rep w 6 ≠ [] := by
      intro e
      have := List.append_eq_nil_iff.mp (show rep w 5 ++ w = [] from e)
      exact hn this.2
    generalize hv : rep w 6 = v at z g1 g2 hrw rn
    have inq := hj.in ok ok' al
    have nn := jts_nn ok ok' al inq hrw
    have le := jts_le (m := m) (m' := m') (w := v) (p := (q1, q2)) (g := 0) (g' := 0)
    obtain ⟨⟨t, t1, t2⟩, t', t3, t4⟩ := jts_hit ok ok' al inq hrw rn
    have W := jwk ok ok' al J hj hrw
    dsimp only at W t2 t4 le
    rw [g1, g2] at W
    have n1 := nn t t1
    have n2 := nn t' t3
    generalize rmx m q1 0 v = A at z t2 le
    generalize rmx m' q2 0 v = B at z t4 le
    have eA : ((A.toNat : Nat) : Int) = A := by omega
    have eB : ((B.toNat : Nat) : Int) = B := by omega
    refine ⟨A.toNat, B.toNat, by omega, by omega, by omega, ?_⟩
    rw [eA, eB]
    have WB : ∀ {p q : Pt} {ts : List Tag}, Wk g p ts q → (∀ t ∈ ts, t.2.1 ≤ A ∧ t.2.2 ≤ B) → Wk (bnd g A B) p ts q := by
      intro p q ts h
      induction h with
      | nil u => intro _; exact .nil u
      | cons e _ ih => intro hl; exact .cons (bnd_mem.mpr ⟨e, hl _ List.mem_cons_self⟩) (ih fun t ht => hl t (List.mem_cons_of_mem _ ht))
    have W2 := WB W le
    obtain ⟨x, y, e1, e2, e3⟩ := W2.edge t t1
    obtain ⟨x', y', e1', e2', e3'⟩ := W2.edge t' t3
    refine ⟨x, t, y, x', t', y', e1, ⟨.one ⟨t, e1⟩, e3.trans e2⟩, t2, e1', ⟨.one ⟨t', e1'⟩, e3'.trans e2'⟩, t4, ?_⟩
    exact ⟨((Rch.one ⟨t, e1⟩).trans e3).trans e2', ((Rch.one ⟨t', e1'⟩).trans e3').trans e2⟩
end
/-- difference(m, m') is None exactly where they say the same -/
theorem df_iff {m m' : Mach} (ok : MOk m) (ok' : MOk m') (al : m'.al = m.al) {b : Bool} (h : DfOk m m' b) : b = false ↔ EqM m m' := by
  obtain ⟨g, J, hb⟩ := h
  constructor
  · intro e
    refine ne_dif ok ok' al J fun z => ?_
    rw [hb.mpr z] at e
    cases e
  · intro E
    cases b with
    | false => rfl
    | true => exact absurd E (dif_ne ok ok' al J (hb.mp rfl))
end EL

set_option Elab.async false
set_option linter.all false
set_option maxRecDepth 100000
set_option maxHeartbeats 1000000
/-! machines that say the same have chains of the same length; a complement differs. Plain. -/
namespace EL
open PySem
theorem tgs_le {m : Mach} : ∀ {w : List Nat} {q g : Int}, ∀ t ∈ tgs m q w, t.2.1 ≤ rmx m q g w
  | [], q, g => fun t h => by cases h
  | c :: w, q, g => fun t h => by
    show t.2.1 ≤ rmx m (stp m q c).1 (max g (stp m q c).2) w
    rcases List.mem_cons.mp h with z | z
    · subst z
      have := rmx_ge (m := m) (s := (stp m q c).1) (g := max g (stp m q c).2) (a := w)
      show (stp m q c).2 ≤ _
      omega
    · exact tgs_le (w := w) t z
theorem tgs_at {m : Mach} : ∀ {w : List Nat} {q g : Int}, rmx m q g w = g ∨ ∃ t ∈ tgs m q w, t.2.1 = rmx m q g w
  | [], q, g => .inl rfl
  | c :: w, q, g => by
    have h1 := tgs_at (m := m) (w := w) (q := (stp m q c).1) (g := max g (stp m q c).2)
    show rmx m (stp m q c).1 (max g (stp m q c).2) w = g ∨ ∃ t ∈ ((sg c, (stp m q c).2, q) :: tgs m (stp m q c).1 w : List Tag), t.2.1 = rmx m (stp m q c).1 (max g (stp m q c).2) w
    rcases h1 with z | ⟨t, t1, t2⟩
    · rw [z]
      by_cases y : (stp m q c).2 ≤ g
      · left; omega
      · right
        exact ⟨_, List.mem_cons_self, by show (stp m q c).2 = _; omega⟩
    · exact .inr ⟨t, List.mem_cons_of_mem _ t1, t2⟩
section
variable {m : Mach} {g : Gph Int} (ok : MOk m) (M : MEOk m g)
include ok M
theorem wk_wordM {p q : Int} {ts : List Tag} (h : Wk g p ts q) : ∃ w, (∀ c ∈ w, c ∈ m.ls) ∧ tgs m p w = ts ∧ q = run m p w := by
  induction h with
  | nil u => exact ⟨[], fun c hc => (by cases hc), rfl, rfl⟩
  | @cons u v x t ts e _ ih =>
    obtain ⟨w, h1, h2, h3⟩ := ih
    obtain ⟨_, c, hc, et, ev⟩ := M.edge ok e
    refine ⟨c :: w, fun d hd => ?_, ?_, ?_⟩
    · rcases List.mem_cons.mp hd with z | z
      · rw [z]; exact hc
      · exact h1 d z
    · show _ :: tgs m (stp m u c).1 w = _
      rw [← ev, h2, et]
    · rw [h3]
      show _ = run m (stp m u c).1 w
      rw [ev]
omit M in
theorem tgs_nn {q : Int} (h0 : 0 ≤ q) (h1 : q < m.tab.length) : ∀ {w : List Nat}, (∀ c ∈ w, c ∈ m.ls) → ∀ t ∈ tgs m q w, 0 ≤ t.2.1 := by
  intro w
  induction w generalizing q with
  | nil => intro _ t h; cases h
  | cons c w ih =>
    intro hw t h
    have r := stp_rng ok h0 h1 (hw c List.mem_cons_self)
    rcases List.mem_cons.mp h with z | z
    · subst z; exact r.2.2.1
    · exact ih r.1 r.2.1 (fun d hd => hw d (List.mem_cons_of_mem _ hd)) t z
omit M in
theorem tgs_hit {q : Int} (h0 : 0 ≤ q) (h1 : q < m.tab.length) {w : List Nat} (hw : ∀ c ∈ w, c ∈ m.ls) (hn : w ≠ []) : ∃ t ∈ tgs m q w, t.2.1 = rmx m q 0 w := by
  have nn := tgs_nn ok h0 h1 hw
  have le := tgs_le (m := m) (w := w) (q := q) (g := 0)
  obtain ⟨t0, ht0⟩ : ∃ t, t ∈ tgs m q w := by
    cases w with
    | nil => exact absurd rfl hn
    | cons c w => exact ⟨_, List.mem_cons_self⟩
  have a1 := nn t0 ht0
  have a2 := le t0 ht0
  rcases tgs_at (m := m) (w := w) (q := q) (g := 0) with z | z
  · exact ⟨t0, ht0, by rw [z] at a2 ⊢; omega⟩
  · exact z
/-- a circle's word -/
theorem Cyc.word {q t : Int} (c : Cyc g q t) : MR m q ∧ ∃ w, (∀ c ∈ w, c ∈ m.ls) ∧ w ≠ [] ∧ run m q w = q ∧ rmx m q 0 w = t := by
  obtain ⟨ts, W, ⟨x, hx, ex⟩, le⟩ := c
  obtain ⟨w, h1, h2, h3⟩ := wk_wordM ok M W
  have hq : MR m q := by
    cases W with
    | nil => cases hx
    | cons e _ => exact (M.edge ok e).1
  have hn : w ≠ [] := by
    intro z
    rw [z] at h2
    rw [← h2] at hx
    cases hx
  have hr := hq.rng ok
  refine ⟨hq, w, h1, hn, h3.symm, ?_⟩
  obtain ⟨y, y1, y2⟩ := tgs_hit ok hr.1 hr.2 h1 hn
  have l1 := tgs_le (m := m) (w := w) (q := q) (g := 0) x (by rw [h2]; exact hx)
  have l2 := le y (by rw [← h2]; exact y1)
  omega
theorem word_cyc {q : Int} (hq : MR m q) {w : List Nat} (hw : ∀ c ∈ w, c ∈ m.ls) (hn : w ≠ []) (h : run m q w = q) : Cyc g q (rmx m q 0 w) := by
  have hr := hq.rng ok
  have W := wk_tgs M hq hw
  rw [h] at W
  exact ⟨_, W, tgs_hit ok hr.1 hr.2 hw hn, tgs_le⟩
end
/-- the words of a chain, each within the next -/
def nst (w : Nat → List Nat) : Nat → List Nat
  | 0 => rep (w 0) 6
  | i + 1 => rep (nst w i ++ w (i + 1) ++ nst w i) 6
theorem nst_pre (w : Nat → List Nat) (i : Nat) : (∃ r, nst w (i + 1) = nst w i ++ r) ∧ ∃ r, nst w (i + 1) = r ++ nst w i := by
  refine ⟨⟨w (i + 1) ++ nst w i ++ rep (nst w i ++ w (i + 1) ++ nst w i) 5, ?_⟩, ⟨rep (nst w i ++ w (i + 1) ++ nst w i) 5 ++ (nst w i ++ w (i + 1)), ?_⟩⟩
  · show rep (nst w i ++ w (i + 1) ++ nst w i) (1 + 5) = _
    rw [rep_app]
    show [] ++ (nst w i ++ w (i + 1) ++ nst w i) ++ _ = _
    simp only [List.nil_append, List.append_assoc]
  · show rep (nst w i ++ w (i + 1) ++ nst w i) 5 ++ (nst w i ++ w (i + 1) ++ nst w i) = _
    simp only [List.append_assoc]
theorem nst_mem {ls : List Nat} {w : Nat → List Nat} {n : Nat} (h : ∀ i, i < n → ∀ c ∈ w i, c ∈ ls) : ∀ i, i < n → ∀ c ∈ nst w i, c ∈ ls
  | 0, hi => fun c hc => h 0 hi c (rep_mem hc)
  | i + 1, hi => fun c hc => by
    have := rep_mem hc
    have ih := nst_mem h i (by omega)
    rcases List.mem_append.mp this with z | z
    · rcases List.mem_append.mp z with z | z
      · exact ih c z
      · exact h (i + 1) hi c z
    · exact ih c z
theorem nst_ne {w : Nat → List Nat} {n : Nat} (h : ∀ i, i < n → w i ≠ []) : ∀ i, i < n → nst w i ≠ []
  | 0, hi => fun e => h 0 hi (List.append_eq_nil_iff.mp (show rep (w 0) 5 ++ w 0 = [] from e)).2
  | i + 1, hi => fun e => by
    have e2 := (List.append_eq_nil_iff.mp (show rep (nst w i ++ w (i + 1) ++ nst w i) 5 ++ (nst w i ++ w (i + 1) ++ nst w i) = [] from e)).2
    exact nst_ne h i (by omega) (List.append_eq_nil_iff.mp e2).2
theorem nst_loop {m : Mach} {q : Int} {w : Nat → List Nat} {ts : Nat → Int} {n : Nat} (h : ∀ i, i < n → run m q (w i) = q ∧ rmx m q 0 (w i) = ts i) (inc : ∀ i, i + 1 < n → ts i < ts (i + 1)) : ∀ i, i < n → run m q (nst w i) = q ∧ rmx m q 0 (nst w i) = ts i
  | 0, hi => by
    obtain ⟨h1, h2⟩ := h 0 hi
    exact ⟨by show run m q (rep (w 0) 6) = q; rw [rep_run, rep_loop h1], (rep_rmx h1 5).trans h2⟩
  | i + 1, hi => by
    obtain ⟨h1, h2⟩ := h (i + 1) hi
    obtain ⟨i1, i2⟩ := nst_loop h inc i (by omega)
    have e1 : run m q (nst w i ++ w (i + 1) ++ nst w i) = q := by rw [run_app, run_app, i1, h1, i1]
    have e2 : rmx m q 0 (nst w i ++ w (i + 1) ++ nst w i) = ts (i + 1) := by
      rw [rmx_app0, rmx_app0, run_app, i1, h1, i2, h2]
      have := inc i hi
      omega
    exact ⟨by show run m q (rep (nst w i ++ w (i + 1) ++ nst w i) 6) = q; rw [rep_run, rep_loop e1], (rep_rmx e1 5).trans e2⟩
/-- in any machine the last word leads to a state that all of them hold -/
theorem nst_fix {m : Mach} (ok : MOk m) {w : Nat → List Nat} {n : Nat} (hw : ∀ i, i < n → ∀ c ∈ w i, c ∈ m.ls) : ∀ i, i < n → ∀ s : Int, 0 ≤ s → s < m.tab.length → ∀ j, j ≤ i → run m (run m s (nst w i)) (nst w j) = run m s (nst w i) := by
  have own : ∀ i, i < n → ∀ s : Int, 0 ≤ s → s < m.tab.length → run m (run m s (nst w i)) (nst w i) = run m s (nst w i) := fun i hi s h0 h1 => by
    obtain ⟨x, hx, ex⟩ : ∃ x, (∀ c ∈ x, c ∈ m.ls) ∧ nst w i = rep x 6 := by
      cases i with
      | zero => exact ⟨w 0, hw 0 hi, rfl⟩
      | succ i =>
        have ih := nst_mem hw i (by omega)
        refine ⟨_, fun c hc => ?_, rfl⟩
        rcases List.mem_append.mp hc with z | z
        · rcases List.mem_append.mp z with z | z
          · exact ih c z
          · exact hw (i + 1) hi c z
        · exact ih c z
    rw [ex, rep_run, rep_run, itr_add]
    exact six ok h0 h1 hx
  intro i
  induction i with
  | zero =>
    intro hi s h0 h1 j hj
    have : j = 0 := by omega
    subst this
    exact own 0 hi s h0 h1
  | succ i ih =>
    intro hi s h0 h1 j hj
    by_cases e : j = i + 1
    · subst e; exact own _ hi s h0 h1
    · obtain ⟨r, hr⟩ := (nst_pre w i).2
      have hm := nst_mem hw (i + 1) hi
      have hrm : ∀ c ∈ r, c ∈ m.ls := fun c hc => hm c (by rw [hr]; exact List.mem_append_left _ hc)
      have hrg := run_rng ok h0 h1 hrm
      rw [hr, run_app]
      exact ih (by omega) _ hrg.1 hrg.2 j (by omega)
theorem chn_eq {m m' : Mach} (ok : MOk m) (ok' : MOk m') (al : m'.al = m.al) (E : EqM m m') {g g' : Gph Int} (M : MEOk m g) (M' : MEOk m' g') {inner n : Nat} (h : Chn g inner n) : Chn g' inner n := by
  have els : m'.ls = m.ls := by unfold Mach.ls; rw [al]
  rcases h with e | ⟨q, ts, c⟩
  · exact .inl e
  · by_cases n0 : n = 0
    · exact .inl n0
    · have hq := (Cyc.word ok M (c 0 (by omega)).1).1
      obtain ⟨u, hu, hru⟩ := hq.word
      have key : ∀ i, ∃ w : List Nat, i < n → (∀ c ∈ w, c ∈ m.ls) ∧ w ≠ [] ∧ run m q w = q ∧ rmx m q 0 w = ts i := fun i => by
        by_cases hi : i < n
        · obtain ⟨_, w, hw⟩ := Cyc.word ok M (c i hi).1
          exact ⟨w, fun _ => hw⟩
        · exact ⟨[], fun z => absurd z hi⟩
      have ⟨w, hw⟩ := Classical.axiomOfChoice key
      have inc : ∀ i, i + 1 < n → ts i < ts (i + 1) := fun i hi => (c i (by omega)).2.2 hi
      have hmem := nst_mem (ls := m.ls) (w := w) (n := n) fun i hi => (hw i hi).1
      have hne := nst_ne (w := w) (n := n) fun i hi => (hw i hi).2.1
      have hlp := nst_loop (m := m) (q := q) (w := w) (ts := ts) (n := n) (fun i hi => (hw i hi).2.2) inc
      have hu' : ∀ c ∈ u, c ∈ m'.ls := by rw [els]; exact hu
      have r0 := run_rng ok' ok'.s1 ok'.s2 hu'
      have fix := nst_fix (m := m') ok' (w := w) (n := n) (fun i hi => by rw [els]; exact (hw i hi).1) (n - 1) (by omega) _ r0.1 r0.2
      have hrp : run m m.st (u ++ nst w (n - 1)) = q := by rw [run_app, hru]; exact (hlp (n - 1) (by omega)).1
      have hup : ∀ c ∈ u ++ nst w (n - 1), c ∈ m.ls := fun c hc => (List.mem_append.mp hc).elim (hu c) (hmem (n - 1) (by omega) c)
      have hpp : MR m' (run m' m'.st (u ++ nst w (n - 1))) := MR.run .st (by rw [els]; exact hup)
      have ep : run m' m'.st (u ++ nst w (n - 1)) = run m' (run m' m'.st u) (nst w (n - 1)) := run_app
      rw [← ep] at fix
      generalize hp : run m' m'.st (u ++ nst w (n - 1)) = p at fix hpp
      refine .inr ⟨p, fun i => rmx m' p 0 (nst w i), fun i hi => ?_⟩
      have par : ∀ i, i < n → rmx m' p 0 (nst w i) % 2 = ts i % 2 := fun i hi => by
        have := E (u ++ nst w (n - 1)) (nst w i) hup (hmem i hi) (hne i hi)
        rw [acc_loop hrp (hlp i hi).1, (hlp i hi).2, acc_loop hp (fix i (by omega))] at this
        exact this.symm
      refine ⟨word_cyc ok' M' hpp (by rw [els]; exact hmem i hi) (hne i hi) (fix i (by omega)), by rw [par i hi]; exact (c i hi).2.1, fun hi1 => ?_⟩
      obtain ⟨r, hr⟩ := (nst_pre w i).1
      have le : rmx m' p 0 (nst w i) ≤ rmx m' p 0 (nst w (i + 1)) := by
        rw [hr, rmx_app0]
        exact Int.le_max_left _ _
      have p1 := par i hi
      have p2 := par (i + 1) hi1
      have q1 := (c i hi).2.1
      have q2 := (c (i + 1) hi1).2.1
      show rmx m' p 0 (nst w i) < rmx m' p 0 (nst w (i + 1))
      omega
theorem mlen_eq {m m' : Mach} (ok : MOk m) (ok' : MOk m') (al : m'.al = m.al) (E : EqM m m') {inner n n' : Nat} (h : MLen m inner n) (h' : MLen m' inner n') : n = n' := by
  obtain ⟨g, M, h1, h2⟩ := h
  obtain ⟨g', M', h1', h2'⟩ := h'
  have a := h2' _ (chn_eq ok ok' al E M M' h1)
  have b := h2 _ (chn_eq ok' ok al.symm (E.symm al) M' M h1')
  omega
/-- the same fewest priorities -/
theorem few_eq {m m' : Mach} (ok : MOk m) (ok' : MOk m') (al : m'.al = m.al) (E : EqM m m') {z z' : Int} (h : Few m z) (h' : Few m' z') : z = z' := by
  obtain ⟨e, o, he, ho, rfl⟩ := h
  obtain ⟨e', o', he', ho', rfl⟩ := h'
  rw [mlen_eq ok ok' al E he he', mlen_eq ok ok' al E ho ho']
end EL

set_option Elab.async false
set_option linter.all false
set_option maxRecDepth 100000
set_option maxHeartbeats 1000000
/-! a complement of the relabelled machine differs. Plain. -/
namespace EL
open PySem
section
variable {m : Mach} (ok : MOk m) {a : Int}
include ok
theorem sh_stp {s : Int} {c : Nat} (h0 : 0 ≤ s) (h1 : s < m.tab.length) (hc : c ∈ m.ls) : stp (shM m a) s c = ((stp m s c).1, (stp m s c).2 + a) := by
  obtain ⟨r, hr, hm, hd⟩ := ok.row h0 h1
  have e1 : (shM m a).tab.getD s.toNat [] = shR a r := by
    show (m.tab.map _).getD _ _ = _
    rw [List.getD_eq_getElem?_getD, List.getElem?_map, hr]; rfl
  have hi : m.ls.idxOf c < r.length := by rw [ok.wd r hm]; exact List.idxOf_lt_length_of_mem hc
  unfold stp
  have els : (shM m a).ls = m.ls := rfl
  rw [e1, hd, els]
  unfold shR
  rw [List.getD_eq_getElem?_getD, List.getElem?_map, List.getElem?_eq_getElem hi, List.getD_eq_getElem?_getD (l := r), List.getElem?_eq_getElem hi]
  rfl
theorem sh_run : ∀ {w : List Nat} {s : Int}, 0 ≤ s → s < m.tab.length → (∀ c ∈ w, c ∈ m.ls) → run (shM m a) s w = run m s w
  | [], _, _, _, _ => rfl
  | c :: w, s, h0, h1, hw => by
    have hc := hw c List.mem_cons_self
    have r := stp_rng ok h0 h1 hc
    show run (shM m a) (stp (shM m a) s c).1 w = run m (stp m s c).1 w
    rw [sh_stp ok h0 h1 hc]
    exact sh_run (w := w) r.1 r.2.1 fun d hd => hw d (List.mem_cons_of_mem _ hd)
theorem sh_rmx : ∀ {w : List Nat} {s g : Int}, 0 ≤ s → s < m.tab.length → (∀ c ∈ w, c ∈ m.ls) → rmx (shM m a) s (g + a) w = rmx m s g w + a
  | [], _, _, _, _, _ => rfl
  | c :: w, s, g, h0, h1, hw => by
    have hc := hw c List.mem_cons_self
    have r := stp_rng ok h0 h1 hc
    show rmx (shM m a) (stp (shM m a) s c).1 (max (g + a) (stp (shM m a) s c).2) w = rmx m (stp m s c).1 (max g (stp m s c).2) w + a
    rw [sh_stp ok h0 h1 hc]
    dsimp only
    rw [show max (g + a) ((stp m s c).2 + a) = max g (stp m s c).2 + a by omega]
    exact sh_rmx (w := w) r.1 r.2.1 fun d hd => hw d (List.mem_cons_of_mem _ hd)
theorem sh_rmx0 (ok' : MOk (shM m a)) {w : List Nat} {s : Int} (h0 : 0 ≤ s) (h1 : s < m.tab.length) (hw : ∀ c ∈ w, c ∈ m.ls) (hn : w ≠ []) : rmx (shM m a) s 0 w = rmx m s 0 w + a := by
  cases w with
  | nil => exact absurd rfl hn
  | cons c w =>
    have hc := hw c List.mem_cons_self
    have r := stp_rng ok h0 h1 hc
    have hl : (shM m a).tab.length = m.tab.length := by show (m.tab.map _).length = _; rw [List.length_map]
    have r' := stp_rng ok' h0 (by rw [hl]; exact h1) (show c ∈ (shM m a).ls from hc)
    rw [sh_stp ok h0 h1 hc] at r'
    dsimp only at r'
    show rmx (shM m a) (stp (shM m a) s c).1 (max 0 (stp (shM m a) s c).2) w = rmx m (stp m s c).1 (max 0 (stp m s c).2) w + a
    rw [sh_stp ok h0 h1 hc]
    dsimp only
    rw [show max 0 ((stp m s c).2 + a) = max 0 (stp m s c).2 + a by omega]
    exact sh_rmx ok r.1 r.2.1 fun d hd => hw d (List.mem_cons_of_mem _ hd)
end
theorem rel_run {m m' : Mach} (ok : MOk m) (R : Rel m m') : ∀ {w : List Nat} {s : Int}, 0 ≤ s → s < m.tab.length → (∀ c ∈ w, c ∈ m.ls) → run m' s w = run m s w
  | [], _, _, _, _ => rfl
  | c :: w, s, h0, h1, hw => by
    have hc := hw c List.mem_cons_self
    have r := stp_rng ok h0 h1 hc
    show run m' (stp m' s c).1 w = run m (stp m s c).1 w
    rw [R.tg s c h0 h1 hc]
    exact rel_run ok R (w := w) r.1 r.2.1 fun d hd => hw d (List.mem_cons_of_mem _ hd)
theorem compl_ne {m m' : Mach} (ok : MOk m) (R : Rel m m') {a : Int} (ha : a = 1 ∨ a = -1) (ok2 : MOk (shM m' a)) : ¬ EqM m (shM m' a) := by
  intro E
  have els : m'.ls = m.ls := by unfold Mach.ls; rw [R.al]
  obtain ⟨c, hc⟩ : ∃ c, c ∈ m.ls := by
    have h1 := (alph_size ok.al).1
    have h2 : m.ls.length = m.al.cps.size := by unfold Mach.ls; rw [Array.length_toList]
    cases q : m.ls with
    | nil => rw [q] at h2; simp at h2; omega
    | cons c _ => exact ⟨c, List.mem_cons_self⟩
  have hw : ∀ d ∈ [c], d ∈ m.ls := fun d hd => by rw [List.mem_singleton.mp hd]; exact hc
  have e := E [] [c] (fun d hd => by cases hd) hw (by simp)
  have hv : ∀ d ∈ rep [c] 6, d ∈ m.ls := fun d hd => hw d (rep_mem hd)
  have hs6 := six ok ok.s1 ok.s2 hw
  unfold acc at e
  rw [← rep_run, ← rep_run] at e
  have st' : (shM m' a).st = m.st := R.st
  have e0 : run (shM m' a) (run (shM m' a) (shM m' a).st []) (rep [c] 6) = run m (run m m.st []) (rep [c] 6) := by
    show run (shM m' a) (shM m' a).st (rep [c] 6) = run m m.st (rep [c] 6)
    rw [st', sh_run R.ok ok.s1 (by rw [R.tl]; exact ok.s2) (by rw [els]; exact hv), rel_run ok R ok.s1 ok.s2 hv]
  rw [e0] at e
  have hq : MR m (run m (run m m.st []) (rep [c] 6)) := MR.run .st hv
  have hl : run m (run m (run m m.st []) (rep [c] 6)) (rep [c] 6) = run m (run m m.st []) (rep [c] 6) := by
    rw [rep_run, rep_run, itr_add]; exact hs6
  generalize run m (run m m.st []) (rep [c] 6) = q at e hq hl
  have hr := hq.rng ok
  have rn : rep [c] 6 ≠ [] := by
    intro z
    have := List.append_eq_nil_iff.mp (show rep [c] 5 ++ [c] = [] from z)
    cases this.2
  have p := R.par q (rep [c] 6) hq rn hv hl
  rw [sh_rmx0 R.ok ok2 hr.1 (by rw [R.tl]; exact hr.2) (by rw [els]; exact hv) rn] at e
  omega
end EL

set_option Elab.async false
set_option linter.all false
set_option maxRecDepth 100000
set_option maxHeartbeats 2000000
/-! {k for a in xs for b in a}: a set of keys from two clauses without tests -/
namespace EL
open PySem PySem.Spec PyProof.Rows L2
abbrev sc2 (y t0 i0 t1 i1 : Expr) (sc : Scope) (ps : Pos) : Expr := .SetComp y [⟨t0, i0, [], 0⟩, ⟨t1, i1, [], 0⟩] sc ps
theorem s2_turn0 (y t0 i0 t1 i1 : Expr) (sc : Scope) (ps : Pos) (it acc : Value) (env : Env) : compTurn (sc2 y t0 i0 t1 i1 sc ps) 0 it acc env =
    (standAt i0.pos >>= fun _ => pyNext it >>= fun r => match r with
      | none => pure (.done .next)
      | some v => letOwnedTupleGo t0 it v >>= fun _ => assign t0 env v >>= fun _ => eval i1 env >>= fun x => standAt i1.pos >>= fun _ =>
          foldedSetIterable i1 env x >>= fun x => holding [x] (pyIter x) >>= fun j => runOwn (.compStart (sc2 y t0 i0 t1 i1 sc ps) 1 j acc env) env >>= fun _ => again (.compLoop (sc2 y t0 i0 t1 i1 sc ps) 0 it acc env)) := by rfl
theorem s2_turn1 (y t0 i0 t1 i1 : Expr) (sc : Scope) (ps : Pos) (it acc : Value) (env : Env) : compTurn (sc2 y t0 i0 t1 i1 sc ps) 1 it acc env =
    (standAt i1.pos >>= fun _ => pyNext it >>= fun r => match r with
      | none => pure (.done .next)
      | some v => letOwnedTupleGo t1 it v >>= fun _ => assign t1 env v >>= fun _ => (eval y env >>= fun z => standAt y.pos >>= fun _ =>
          call (.builtin "set.add") [acc, z] >>= fun _ => pure ()) >>= fun _ => again (.compLoop (sc2 y t0 i0 t1 i1 sc ps) 1 it acc env)) := by rfl
section
variable {P : Program} {w : World} {A : Around} {R : Result → Shared → Prop} {s : Shared} {y t0 i0 t1 i1 : Expr} {sc : Scope} {ps : Pos} {it acc : Value} {env : Env}
/-- where an error of the block goes -/
abbrev ErrT (P : Program) (w : World) (A : Around) (env : Env) (R : Result → Shared → Prop) : Value → Shared → Prop := notedBy (model P w) A env fun x s' => R (.error x) s'
/-- what a turn of the first clause does with its item -/
def Tn0 (P : Program) (w : World) (A : Around) (env : Env) (R : Result → Shared → Prop) (y t0 i0 t1 i1 : Expr) (sc : Scope) (ps : Pos) (it acc : Value) (Z : Shared → Prop) (v : Value) (s : Shared) : Prop :=
  wpAny (model P w) A (letOwnedTupleGo t0 it v) (fun _ s => wpAny (model P w) A (assign t0 env v) (fun _ s => wpAny (model P w) A (eval i1 env) (fun x s => wpAny (model P w) A (pyIter x)
    (fun j s => codeAny (model P w) A (.compStart (sc2 y t0 i0 t1 i1 sc ps) 1 j acc env) (fun r s => (∃ f, r = .ok f) ∧ Z s) s) (ErrT P w A env R) s) (ErrT P w A env R) s) (ErrT P w A env R) s) (ErrT P w A env R) s
def Tn1 (P : Program) (w : World) (A : Around) (env : Env) (R : Result → Shared → Prop) (y t1 : Expr) (it acc : Value) (Z : Shared → Prop) (v : Value) (s : Shared) : Prop :=
  wpAny (model P w) A (letOwnedTupleGo t1 it v) (fun _ s => wpAny (model P w) A (assign t1 env v) (fun _ s => wpAny (model P w) A (eval y env) (fun x s => wpAny (model P w) A (call (.builtin "set.add") [acc, x])
    (fun _ s => Z s) (ErrT P w A env R) s) (ErrT P w A env R) s) (ErrT P w A env R) s) (ErrT P w A env R) s
theorem s2_loop0 (fs : ∀ x, foldedSetIterable i1 env x = pure x) (I : Nat → Shared → Prop)
    (tn : ∀ n s, I n s → wpAny (model P w) A (pyNext it) (fun r s => (r = none → R (.ok .next) s) ∧ ∀ v, r = some v → Tn0 P w A env R y t0 i0 t1 i1 sc ps it acc (fun s => ∃ m, m < n ∧ I m s) v s) (ErrT P w A env R) s)
    (n : Nat) (h : I n s) : codeAny (model P w) A (.compLoop (sc2 y t0 i0 t1 i1 sc ps) 0 it acc env) R s := by
  refine codeAny_loop rfl I (fun n s hI => wpAny_noted ?_) n h
  rw [s2_turn0]
  refine wpAny_bind (wpAny_standAt (wpAny_bind (wpAny_mono (tn n s hI) (fun r s1 h1 => ?_) fun _ _ z => z)))
  cases r with
  | none => exact wpAny_pure (h1.1 rfl)
  | some v =>
    refine wpAny_bind (wpAny_mono (h1.2 v rfl) (fun _ s2 h2 => wpAny_bind (wpAny_mono h2 (fun _ s3 h3 => wpAny_bind (wpAny_mono h3 (fun x s4 h4 => ?_) fun _ _ z => z)) fun _ _ z => z)) fun _ _ z => z)
    refine wpAny_bind (wpAny_standAt (wpAny_bind (wpAny_of_eq (fs x) (wpAny_bind (wpAny_holding (wpAny_mono h4 (fun j s5 h5 => wpAny_bind (wpAny_runOwn ?_)) fun _ _ z => z))))))
    rw [Around.mark_none]
    refine codeAny_mono h5 fun r s6 ⟨⟨f, e⟩, hz⟩ => ?_
    subst e
    exact wpAny_pure ⟨rfl, hz⟩
theorem s2_loop1 (I : Nat → Shared → Prop)
    (tn : ∀ n s, I n s → wpAny (model P w) A (pyNext it) (fun r s => (r = none → R (.ok .next) s) ∧ ∀ v, r = some v → Tn1 P w A env R y t1 it acc (fun s => ∃ m, m < n ∧ I m s) v s) (ErrT P w A env R) s)
    (n : Nat) (h : I n s) : codeAny (model P w) A (.compLoop (sc2 y t0 i0 t1 i1 sc ps) 1 it acc env) R s := by
  refine codeAny_loop rfl I (fun n s hI => wpAny_noted ?_) n h
  rw [s2_turn1]
  refine wpAny_bind (wpAny_standAt (wpAny_bind (wpAny_mono (tn n s hI) (fun r s1 h1 => ?_) fun _ _ z => z)))
  cases r with
  | none => exact wpAny_pure (h1.1 rfl)
  | some v =>
    refine wpAny_bind (wpAny_mono (h1.2 v rfl) (fun _ s2 h2 => wpAny_bind (wpAny_mono h2 (fun _ s3 h3 => wpAny_bind (wpAny_bind (wpAny_mono h3 (fun x s4 h4 => ?_) fun _ _ z => z))) fun _ _ z => z)) fun _ _ z => z)
    exact wpAny_bind (wpAny_standAt (wpAny_bind (wpAny_mono h4 (fun _ s5 h5 => wpAny_pure (wpAny_pure ⟨rfl, h5⟩)) fun _ _ z => z)))
theorem s2_start1 (h0 : codeAny (model P w) A (.compLoop (sc2 y t0 i0 t1 i1 sc ps) 1 it acc env) R s)
    (h : wpAny (model P w) A (pyIter it) (fun j s' => codeAny (model P w) A (.compLoop (sc2 y t0 i0 t1 i1 sc ps) 1 j acc env) R s') (ErrT P w A env R) s) : codeAny (model P w) A (.compStart (sc2 y t0 i0 t1 i1 sc ps) 1 it acc env) R s := by
  refine codeAny_of_tree ?_
  show wpAny _ _ (Sem.onRaise (compStart (sc2 y t0 i0 t1 i1 sc ps) 1 it acc env) fun x => noteFrame x env >>= fun _ => standAt theWindowsPlace) _ _ s
  refine wpAny_notedAt ?_
  unfold compStart
  show wpAny _ _ (ask >>= _) _ _ s
  refine wpAny_bind (wpAny_askSetting (wpAny_ite ?_))
  split
  · exact wpAny_bind (wpAny_pure (wpAny_pure ⟨rfl, h0⟩))
  · refine wpAny_bind (wpAny_rule ?_)
    show wpAny _ _ (standAt i1.pos >>= _) _ _ s
    exact wpAny_bind (wpAny_standAt (wpAny_bind (wpAny_mono h (fun j s' q => wpAny_pure ⟨rfl, q⟩) fun _ _ z => z)))
end
end EL

set_option Elab.async false
set_option linter.all false
set_option maxRecDepth 100000
set_option maxHeartbeats 4000000
namespace EL
open PySem PySem.Spec PyProof.Rows L2
/-- what the second clause's walk does, the set at D -/
def In2 (P : Program) (w : World) (D : Addr) (g1 : TG) (te : TE) (vs1 : List Nat) (σ2 : L2.St) (Nx : Hp → Prop) (J1 : It) (H4 : Hp) : Prop :=
  ∃ W1 : Nat → Nat → Hp → Prop, (∃ m, W1 0 m H4) ∧ ∀ j k H, W1 j k H → (J1.stop j H ∧ Nx H) ∨ (J1.go j H ∧ ∃ N1 : Hp → Prop, (∀ H', N1 H' → ∃ k', k' < k ∧ W1 (j + 1) k' H') ∧ ∀ x H', J1.yld j H x H' →
    g1 x (wipe σ2 vs1) H' fun σ3 H5 => wipe σ3 vs1 = wipe σ2 vs1 ∧ te σ3 H5 fun y H7 => ∃ (c : Key) (S : Key → Bool) (n : Nat), y = kV c ∧ H7 D = some (SetK P w D S n) ∧ n + 1 < scanBound ∧ N1 (upd H7 D (SetK P w D (fun j => S j || decide (j = c)) (if S c = true then n else n + 1))))
/-- the first clause's -/
def tSc2 (P : Program) (w : World) (wi : TI) (g : TG) (wi1 : TI) (g1 : TG) (te : TE) (vs vs1 : List Nat) : TE := fun σ H Q => wi σ H fun J H1 => ∀ D, H1 D = none →
  ∃ W : Nat → Nat → Hp → Prop, (∃ m, W 0 m (upd H1 D (SetK P w D (fun _ => false) 0))) ∧ ∀ i m H, W i m H → (J.stop i H ∧ Q (.ref D) H) ∨ (J.go i H ∧ ∃ Nx : Hp → Prop, (∀ H', Nx H' → ∃ m', m' < m ∧ W (i + 1) m' H') ∧ ∀ x H', J.yld i H x H' →
    g x (wipe σ vs) H' fun σ2 H2 => wipe σ2 vs = wipe σ vs ∧ wi1 σ2 H2 (In2 P w D g1 te vs1 σ2 Nx))
section
variable {X : Cx}
theorem addK_ok {pins : List (Addr × Obj)} {σ : L2.St} {H : Hp} {s : Shared} {D : Addr} {c : Key} {S : Key → Bool} {n : Nat} {v : Value} {Z : Shared → Prop} {E : Value → Shared → Prop} (I : Inv X pins σ H s) (hD : H D = some (SetK X.prog X.w D S n)) (hz : n + 1 < scanBound) (rv : RelV (kV c) v)
    (h : ∀ s', Inv X pins σ (upd H D (SetK X.prog X.w D (fun j => S j || decide (j = c)) (if S c = true then n else n + 1))) s' → Z s') : wpAny (model X.prog X.w) X.A (call (.builtin "set.add") [.ref D, v]) (fun _ s => Z s) E s := by
  refine call_set_add (kV_is rv) (key_scan rv) (setK_get I hD) hz fun g sb nw => h _ ?_
  have ⟨o, _, _, _, ho, _⟩ := nw
  exact I.write (e := D) (t' := s.toks + 1) (by rw [hD]; trivial) (.inl rfl) (fun b u q1 q2 => (sb.2 b q1).trans q2) ⟨o, ho⟩ (setK_new nw)
section
variable {y t0 i0 t1 i1 : Expr} {sc : Scope} {own : List (Str × Nat)} {vs1 : List Nat} {ps : Pos} {wi wi1 : TI} {g g1 : TG} {te : TE}
/-- the second clause's loop, at slots σ8 -/
theorem s2_inner {B : Cx} {pz : List (Addr × Obj)} {D itA : Addr} {fp : List Addr} {tn : Nat → Heap → Prop} {J : It} {σ8 : L2.St} {H : Hp} {s : Shared} {Nx : Hp → Prop} {R : Result → Shared → Prop} (hE : B.xe = fun _ _ => False) (hc : B.calm = true)
    (I : Inv B pz σ8 H s) (T : Turn B.prog B.w B.K t1 J fp itA tn) (st : tn 0 s.heap) (fr : ∀ b ∈ fp, FpOk B pz H b) (pg : PG B t1 g1) (pe : PE B y te) (q : In2 B.prog B.w D g1 te vs1 σ8 Nx J H)
    (fin : ∀ (s' : Shared) (H' : Hp), Inv B pz (wipe σ8 vs1) H' s' → Nx H' → R (.ok .next) s') :
    codeAny (model B.prog B.w) B.A (.compLoop (sc2 y t0 i0 t1 i1 sc ps) 1 (.ref itA) (.ref D) B.env) R s := by
  obtain ⟨W1, ⟨m1, w1⟩, turn⟩ := q
  have fo : ∀ {G : Hp}, (∀ b ∈ fp, G b = none) → ∀ b ∈ fp, FpOk B pz G b := fun hn b hb => ⟨hn b hb, (fr b hb).2⟩
  refine s2_loop1 (fun k s' => ∃ j G, Inv B pz (wipe σ8 vs1) G s' ∧ tn j s'.heap ∧ (∀ b ∈ fp, G b = none) ∧ W1 j k G) ?_ m1 ⟨0, H, I.weak (wipe_length _ _) (fun j v e => (wipe_some e).1), st, fun b hb => (fr b hb).1, w1⟩
  rintro k s1 ⟨j, G1, I1, st1, no1, wk⟩
  rcases turn j k G1 wk with ⟨stop, nx⟩ | ⟨go, N1, hN, step⟩
  · refine thnF (T.done B rfl rfl rfl hc j pz s1 _ G1 (fun _ _ => False) I1 (fo no1) st1 stop) fun r s2 ⟨hr, I2⟩ => ?_
    subst hr
    exact ⟨fun _ => fin s2 G1 I2 nx, fun v e => nomatch e⟩
  · refine thnF (T.item B rfl rfl rfl hc j pz s1 _ G1 (fun _ _ => False) I1 (fo no1) st1 go) fun r s2 ⟨u, hr, h2⟩ => ?_
    subst hr
    refine ⟨fun e => (nomatch e), fun v e => ?_⟩
    cases e
    refine thnF h2 fun _ s3 ⟨x, G3, I3, r3, y3, st3, no3⟩ => ?_
    have rg := pg.run _ s3 _ G3 x u _ (I3.pinned (fo no3) (T.obj _ _ st3)) r3 (step x G3 y3)
    rw [hE] at rg
    refine thnF rg fun _ s4 ⟨σ4, G4, I4, hw4, q4⟩ => ?_
    have re := pe.run _ s4 σ4 G4 _ I4 q4
    rw [hE] at re
    refine thnF re fun z s5 ⟨yv, G5, I5, r5, c, S, n0, ey, hD5, hz5, nx⟩ => ?_
    subst ey
    refine addK_ok (X := B) I5 hD5 hz5 r5 fun s6 I6 => ?_
    obtain ⟨k', lt, w2⟩ := hN _ nx
    have still : ∀ b ∈ fp, ∀ o, s3.heap.get? b = some o → _ := fun b hb o e => I6.pin (b, o) (List.mem_append_right _ (List.mem_append_right _ (mem_pinsAt hb e)))
    refine ⟨k', lt, j + 1, _, I6.unpinned.weak (by rw [← hw4, wipe_length]) (fun i v e => ?_), T.keep _ _ _ st3 fun b hb o e => (still b hb o e).1, fun b hb => ?_, w2⟩
    · rw [← hw4] at e
      exact (wipe_some e).1
    · obtain ⟨o, e, _⟩ := T.obj _ _ st3 b hb
      exact (still b hb o e).2.1
end
end
end EL

set_option Elab.async false
set_option linter.all false
set_option maxRecDepth 100000
set_option maxHeartbeats 4000000
namespace EL
open PySem PySem.Spec PyProof.Rows L2
section
variable {X : Cx} {y t0 i0 t1 i1 : Expr} {sc : Scope} {own : List (Str × Nat)} {vs1 : List Nat} {ps : Pos} {wi wi1 : TI} {g g1 : TG} {te : TE}
/-- the block's context -/
abbrev Blk (X : Cx) (sc : Scope) (s : Shared) (H : Hp) (C : Addr) (cl : List (Str × Addr)) (fp : List Addr) : Cx := X.blk s H sc (compEnvC sc cl C X.env) fp
/-- what the parts of the block are known to be, in any such context -/
structure S2D (X : Cx) (y t0 t1 i1 : Expr) (sc : Scope) (wi1 : TI) (g g1 : TG) (te : TE) : Prop where
  g0 : ∀ s H C cl fp, PG (Blk X sc s H C cl fp) t0 g
  g1 : ∀ s H C cl fp, PG (Blk X sc s H C cl fp) t1 g1
  i1 : ∀ s H C cl fp, PI (Blk X sc s H C cl fp) t1 i1 wi1
  y : ∀ s H C cl fp, PE (Blk X sc s H C cl fp) y te
theorem s2_core {pins : List (Addr × Obj)} {s : Shared} {σ : L2.St} {H : Hp} {Q : VK} {pos' : Pos} {use : Option (Value → Sem Unit)} {Qf : Value → Shared → Prop} (hc : X.calm = true) (hN : X.N.Nodup) (I : Inv X pins σ H s) (hi : PI X t0 i0 wi) (ok : BlkOk X.N X.env.scope sc own) (hv : ∀ i ∈ vs1, i ∈ own.map (·.2)) (d : S2D X y t0 t1 i1 sc wi1 g g1 te)
    (f0 : ∀ x, foldedSetIterable i0 X.env x = pure x) (f1 : ∀ env x, foldedSetIterable i1 env x = pure x) (h : tSc2 X.prog X.w wi g wi1 g1 te (own.map (·.2)) vs1 σ H Q)
    (out : ∀ D C s' m G, Inv X pins σ G s' → Q (.ref D) G → s'.heap.Ns C m → FpOk X pins G C → compPost (model X.prog X.w) X.A X.xe use Qf (.ref D) C (.ok .next) s') :
    wpAny (model X.prog X.w) X.A (comprehension (sc2 y t0 i0 t1 i1 sc ps) sc X.env pos' (newSet (.type "set")) false (eval i0 X.env) use) Qf X.xe s := by
  have free : ∀ z ∈ sc.names, z.2 = .free → ∃ c, X.env.cells.lookup z.1 = some c := fun z hz e => (ok.free z hz e).elim (fun k => I.ok.has _ (.inl k)) fun k => I.ok.has _ (.inr k)
  refine wpAny_comprehension_free (use := use) rfl f0 (closure_ok free) ok.kind (fun z hz e => by rw [ok.uniq z hz, e]) (thn (hi.run pins s σ H _ I h) fun xv s1 q1 => thn q1 fun iv s2 q2 => ?_)
  obtain ⟨it, fp, tn, J, H2, rfl, I2, T, st2, fp2, q⟩ := q2
  refine PpSet.newSet_ok (newEnv_comp ?_)
  generalize hD : s2.heap.objs.size = D
  obtain ⟨W, ⟨m0, w0⟩, turn⟩ := q D (I2.hok.fresh (Nat.le_of_eq hD))
  generalize hs3 : ({ s2 with heap := s2.heap.push { cls := .type "set", dict := none, data := .set #[] 0 (.fresh 0 0 (!X.w.params.followText "set-order")) } } : Shared) = s3
  have kp3 : ∀ b o, s2.heap.get? b = some o → s3.heap.get? b = some o := fun b o e => by
    rw [← hs3]
    exact Heap.get?_push_of_some _ e
  have I3 : Inv X pins σ (upd H2 D (SetK X.prog X.w D (fun _ => false) 0)) s3 := by
    subst hs3
    subst hD
    refine I2.laid (t' := s2.toks) (fun b o e => Heap.get?_push_of_some _ e) (Nat.le_refl _) (setK_new ?_)
    exact ⟨_, #[], 0, _, Heap.get?_push_size _ rfl, ⟨rfl, rfl, rfl⟩, rfl, (fun e he => by simp at he), (fun k => by simp), (by decide), (by rfl), rfl⟩
  generalize hH3 : upd H2 D (SetK X.prog X.w D (fun _ => false) 0) = H3 at I3 w0
  have fp3 : ∀ b ∈ fp, FpOk X pins H3 b ∧ b < s3.heap.objs.size := fun b hb => by
    obtain ⟨o, e, _⟩ := T.obj _ _ st2 b hb
    have ne : b ≠ D := fun z => by
      have := Heap.lt_size e
      rw [z, ← hD] at this
      exact absurd this (Nat.lt_irrefl _)
    refine ⟨⟨?_, (fp2 b hb).2⟩, Heap.lt_size (kp3 b o e)⟩
    rw [← hH3, upd_ne ne]
    exact (fp2 b hb).1
  have no3 : ∀ b ∈ fp, H3 b = none := fun b hb => (fp3 b hb).1.1
  have I4 := block_start I3 ok hN fp3
  have g0' := d.g0 s3 H3 s3.heap.objs.size (cellsFrom (s3.heap.objs.size + 1) sc.names (cloFrom X.env.cells sc.names [])) fp
  have g1' := d.g1 s3 H3 s3.heap.objs.size (cellsFrom (s3.heap.objs.size + 1) sc.names (cloFrom X.env.cells sc.names [])) fp
  have i1' := d.i1 s3 H3 s3.heap.objs.size (cellsFrom (s3.heap.objs.size + 1) sc.names (cloFrom X.env.cells sc.names [])) fp
  have y' := d.y s3 H3 s3.heap.objs.size (cellsFrom (s3.heap.objs.size + 1) sc.names (cloFrom X.env.cells sc.names [])) fp
  generalize hce : compEnvC sc (cellsFrom (s3.heap.objs.size + 1) sc.names (cloFrom X.env.cells sc.names [])) s3.heap.objs.size X.env = ce at I4
  unfold Blk at g0' g1' i1' y'
  rw [hce] at g0' g1' i1' y'
  have cL : ce.locals = s3.heap.objs.size := by subst hce; rfl
  show codeAny _ _ (.compStart (sc2 y t0 i0 t1 i1 sc ps) 0 (.ref it) (.ref D) (compEnvC sc (cellsFrom (s3.heap.objs.size + 1) sc.names (cloFrom X.env.cells sc.names [])) s3.heap.objs.size X.env)) (compPost (model X.prog X.w) X.A X.xe use Qf (.ref D) s3.heap.objs.size) { s3 with heap := pushCells (s3.heap.push { cls := .type "dict", data := .dict #[] }) sc.names }
  rw [hce]
  generalize hs4 : ({ s3 with heap := pushCells (s3.heap.push { cls := .type "dict", data := .dict #[] }) sc.names } : Shared) = s4 at I4 ⊢
  have st4 : tn 0 s4.heap := T.keep _ _ _ st2 fun b _ o e => by
    rw [← hs4]
    exact pushCells_keeps _ _ _ _ (Heap.get?_push_of_some _ (kp3 b o e))
  generalize hB : X.blk s3 H3 sc ce fp = B at I4 g0' g1' i1' y'
  have bP : B.prog = X.prog := by subst hB; rfl
  have bw : B.w = X.w := by subst hB; rfl
  have bK : B.K = X.K := by subst hB; rfl
  have bA : B.A = X.A := by subst hB; rfl
  have be : B.env = ce := by subst hB; rfl
  have bE : B.xe = fun _ _ => False := by subst hB; rfl
  have bc : B.calm = true := by subst hB; exact hc
  have bx : ∀ b, (∀ H' : Hp, ∀ σ' s', Inv B [] σ' H' s' → b ∈ fp → H' b = none → FpOk B [] H' b) := fun b H' σ' s' I' hb hn => by
    subst hB
    exact ⟨hn, (I'.ok.exf b hb).1, I'.ok.exfs b hb, .inl hb, fun x c e => (I'.ok.exf b hb).2 x c e, fun p hp => absurd (show p ∈ ([] : List (Addr × Obj)) ++ [] from hp) (by simp)⟩
  rw [← bP, ← bw, ← bK] at T
  generalize hCP : compPost (model X.prog X.w) X.A X.xe use Qf (.ref D) s3.heap.objs.size = CP
  have loop : codeAny (model B.prog B.w) B.A (.compLoop (sc2 y t0 i0 t1 i1 sc ps) 0 (.ref it) (.ref D) B.env) CP s4 := by
    refine s2_loop0 (f1 B.env) (fun n s' => ∃ i G, Inv B [] (wipe σ (own.map (·.2))) G s' ∧ tn i s'.heap ∧ (∀ b ∈ fp, G b = none) ∧ W i n G) ?_ m0 ⟨0, H3, I4, st4, no3, w0⟩
    rintro n s5 ⟨i, G5, I5, st5, no5, w5⟩
    rcases turn i n G5 w5 with ⟨stop, qq⟩ | ⟨go, Nx, hNx, step⟩
    · refine thnF (T.done B rfl rfl rfl bc i [] s5 _ G5 (fun _ _ => False) I5 (fun b hb => bx b G5 _ _ I5 hb (no5 b hb)) st5 stop) fun r s6 ⟨hr, I6⟩ => ?_
      subst hr
      refine ⟨fun _ => ?_, fun v e => nomatch e⟩
      subst hB
      have I7 : Inv X pins σ G5 s6 := I3.call' (ch := fp) I6.os I6.base I6.hok I6.bare fun b hb => ⟨(fp3 b hb).1.2.2.2.1, (fp3 b hb).1.2.1, (fp3 b hb).1.2.2.2.2.1, (fp3 b hb).1.2.2.2.2.2⟩
      have nC : G5 s3.heap.objs.size = none := by
        rw [← cL]
        exact (I6.free : G5 ce.locals = none)
      obtain ⟨m, ns, _⟩ := I6.loc
      have ns : s6.heap.Ns ce.locals m := ns
      rw [cL] at ns
      rw [← hCP]
      exact out D s3.heap.objs.size s6 m G5 I7 qq ns (I3.fpOk (Nat.le_refl _) nC)
    · refine thnF (T.item B rfl rfl rfl bc i [] s5 _ G5 (fun _ _ => False) I5 (fun b hb => bx b G5 _ _ I5 hb (no5 b hb)) st5 go) fun r s6 ⟨u, hr, h6⟩ => ?_
      subst hr
      refine ⟨fun e => (nomatch e), fun v e => ?_⟩
      cases e
      refine thnF h6 fun _ s7 ⟨x, G7, I7, r7, y7, st7, no7⟩ => ?_
      have I7p := I7.pinned (fun b hb => bx b G7 _ _ I7 hb (no7 b hb)) (T.obj _ _ st7)
      have rg := g0'.run _ s7 _ G7 x u _ I7p r7 (step x G7 y7)
      rw [bE] at rg
      refine thnF rg fun _ s8 ⟨σ8, G8, I8, hw8, q8⟩ => ?_
      have ri := i1'.run _ s8 σ8 G8 _ I8 (by rw [← bP, ← bw] at q8; exact q8)
      rw [bE] at ri
      refine thnF ri fun xv s9 q9 => thnF q9 fun jv s10 q10 => ?_
      obtain ⟨it1, fp1, tn1, J1, G10, rfl, I10, T1, st10, fp10, q11⟩ := q10
      have inner : codeAny (model B.prog B.w) B.A (.compLoop (sc2 y t0 i0 t1 i1 sc ps) 1 (.ref it1) (.ref D) B.env) (fun r s => (∃ f, r = .ok f) ∧ ∃ m, m < n ∧ ∃ i G, Inv B [] (wipe σ (own.map (·.2))) G s ∧ tn i s.heap ∧ (∀ b ∈ fp, G b = none) ∧ W i m G) s10 := by
        refine s2_inner (Nx := Nx) bE bc I10 T1 st10 fp10 g1' y' q11 fun s' G' I' nx => ⟨⟨_, rfl⟩, ?_⟩
        obtain ⟨m', lt, w'⟩ := hNx G' nx
        have still : ∀ b ∈ fp, ∀ o, s7.heap.get? b = some o → _ := fun b hb o e => I'.pin (b, o) (List.mem_append_right _ (List.mem_append_right _ (mem_pinsAt hb e)))
        refine ⟨m', lt, i + 1, G', (I'.unpinned (pins := [])).weak (by rw [← hw8, wipe_length, wipe_length σ8 vs1]) (fun j v e => ?_), T.keep _ _ _ st7 fun b hb o e => (still b hb o e).1, fun b hb => ?_, w'⟩
        · rw [← hw8] at e
          obtain ⟨e1, e2⟩ := wipe_some e
          rw [wipe_out fun z => e2 (hv j z)]
          exact e1
        · obtain ⟨o, e, _⟩ := T.obj _ _ st7 b hb
          exact (still b hb o e).2.1
      exact s2_start1 inner (T1.self B.A 0 _ _ _ st10 inner)
  rw [bP, bw, bA, be] at loop
  exact PpSet.codeAny_compStart_set loop (by rw [bP, bw] at T; exact T.self X.A 0 _ _ _ st4 loop)
theorem sw_trueS {gs : List Comprehension} {py pos : Pos} {x : Str} {l : Nat} (hk : X.env.scope.kind = .function) (hx : X.env.scope.names.lookup x = some .local) (hl : (py.line == pos.line) = true)
    (no : (sc.names.any fun (n, k) => n == x && (k == .local || k == .cell)) = false) : swapsWith (.SetComp y gs sc pos) (some (.Name x py)) l X.env = pure true := by
  have h1 : X.env.kindOf x = some .local := hx
  have h2 : X.env.blockKind = .function := by unfold Env.blockKind; rw [hk]; rfl
  unfold swapsWith
  simp only [h2, h1, no, Expr.pos, hl]
  rfl
theorem ps_setS2 {i : Nat} {x : Str} {px spos : Pos} (hc : X.calm = true) (hN : X.N.Nodup) (hx : X.N[i]? = some x) (hl : X.env.scope.names.lookup x = some .local) (sw : swapsWith (sc2 y t0 i0 t1 i1 sc ps) (some (.Name x px)) spos.line X.env = pure true)
    (hi : PI X t0 i0 wi) (ok : BlkOk X.N X.env.scope sc own) (hv : ∀ i ∈ vs1, i ∈ own.map (·.2)) (d : S2D X y t0 t1 i1 sc wi1 g g1 te) (f0 : ∀ x, foldedSetIterable i0 X.env x = pure x := by intro _; rfl) (f1 : ∀ env x, foldedSetIterable i1 env x = pure x := by intro _ _; rfl) :
    PS X (.Assign [.Name x px] (sc2 y t0 i0 t1 i1 sc ps) spos) (tAsg (tSc2 X.prog X.w wi g wi1 g1 te (own.map (·.2)) vs1) (gName i)) := by
  refine ⟨fun pins s σ H D I h => ?_⟩
  rw [exec_Assign_Name_used _ _ _ _ sw]
  refine wpAny_bind (wpAny_standAt (wpAny_bind ?_))
  have h : tSc2 X.prog X.w wi g wi1 g1 te (own.map (·.2)) vs1 σ H (fun v H1 => gName i v σ H1 D.nx) := h
  show wpAny _ X.A (comprehension (sc2 y t0 i0 t1 i1 sc ps) sc X.env (firstIterPos [⟨t0, i0, [], 0⟩, ⟨t1, i1, [], 0⟩] ps) (newSet (.type "set")) false (eval i0 X.env) (some (assign (.Name x px) X.env)) >>= fun _ => pure ()) _ _ s
  refine wpAny_bind (thn (s2_core (Qf := fun _ s' => SP X pins D .next s') hc hN I hi ok hv d f0 f1 h fun L C s' m G I' q ns f => ?_) fun _ s' hq => wpAny_pure (wpAny_pure hq))
  show wpAny _ _ (assign (.Name x px) X.env (.ref L)) _ _ _
  refine wpAny_assign_Name (store_ok2 (v := V.ref L) I' hN hx (.inl hl) rfl (fun s2 I2 ⟨a, sb, ha⟩ => ?_) (.inr hl))
  obtain ⟨z0, z1, z2, z3, z4, z5⟩ := f
  have ne : C ≠ a := ha.elim (fun z => by rw [z]; exact z1) fun z e => z4 x a z e.symm
  exact ⟨m, ns.sameBut sb ne, fun h3 sb3 => ⟨_, G, I2.turned (t' := s2.toks) (fun b o hb e => (sb3.2 b hb).trans e) z0 z1 z3 z4 z5, q⟩⟩
end
end EL

set_option Elab.async false
set_option linter.all false
set_option maxRecDepth 100000
set_option maxHeartbeats 4000000
namespace EL
open PySem PySem.Spec PyProof.Rows L2
/-- a frozen set of keys -/
def pSet (P : Program) (w : World) (C : Key → Prop) : Pr := fun F v => ∃ (a : Addr) (S : Key → Bool) (n : Nat), v = .ref a ∧ F a = some (SetK P w a S n) ∧ ∀ k, S k = true ↔ C k
instance {P : Program} {w : World} {C : Key → Prop} : Mn (pSet P w C) := ⟨fun s ⟨a, S, n, e, h, c⟩ => ⟨a, S, n, e, s _ _ h, c⟩⟩
section
variable {P : Program} {w : World} {K : PySem.W.Frag} {σ : L2.St} {F H : Hp}
theorem op_sin {k : Key} {C : Key → Prop} [DecidablePred C] {neg : Bool} : OpP (rSInK P w neg) (isV (kV k)) (pSet P w C) (isV (.bl (if neg then !decide (C k) else decide (C k)))) F H := op_val fun F1 H1 x y g s a b Q q => by
  obtain ⟨d, S, n, rfl, hF, hS⟩ := b
  obtain rfl : x = kV k := a
  have hH : H1 d = some (SetK P w d S n) := (s _ _ hF).elim id fun z => by cases z.1
  have e : S k = decide (C k) := by
    by_cases z : C k
    · rw [decide_eq_true z]; exact (hS k).mpr z
    · rw [decide_eq_false z]
      cases q : S k with
      | false => rfl
      | true => exact absurd ((hS k).mp q) z
  refine ⟨k, d, S, n, rfl, rfl, hH, ?_⟩
  rw [e]
  exact q
/-- {kf x y for x in xs for y in ys x} -/
theorem ev_sc2 {α β : Type} {wi wi1 : TI} {g g1 : TG} {te : TE} {vs vs1 : List Nat} {xs : List α} {f : α → Pr} {ys : α → List β} {q : β → Pr} {kf : β → Key} (hi : EvI wi σ F H none xs (fun _ => f)) (hx : xs.length ≤ 3) (hy : ∀ x ∈ xs, (ys x).length ≤ 3)
    (hs : ∀ x v F1 H1, x ∈ xs → Gr F H F1 H1 → Sub F1 H1 → f x F1 v → ∀ Q : L2.St → Hp → Prop, (∀ σ2, wipe σ2 vs = wipe σ vs → EvI wi1 σ2 F1 H1 none (ys x) (fun _ => q) →
      (∀ y v F2 H2, y ∈ ys x → Sub F2 H2 → q y F2 v → ∀ Q : L2.St → Hp → Prop, (∀ σ3, wipe σ3 vs1 = wipe σ2 vs1 → EvP te σ3 F2 H2 (isV (kV (kf y))) → Q σ3 H2) → g1 v (wipe σ2 vs1) H2 Q) → Q σ2 H1) → g v (wipe σ vs) H1 Q) :
    EvP (tSc2 P w wi g wi1 g1 te vs vs1) σ F H (pSet P w fun k => ∃ x ∈ xs, ∃ y ∈ ys x, kf y = k) := fun F1 H1 gr1 s1 Q hQ => by
  refine hi F1 H1 gr1 s1 _ fun J F2 H2 gr2 hJ D hD => ?_
  have s2 := s1.gr gr2
  have gg := gr1.trans gr2
  refine ⟨fun i m H' => m = xs.length - i ∧ i ≤ xs.length ∧ ∃ F' S n, CW F2 H2 D (SetK P w D S n) F' H' ∧ n ≤ 3 * i ∧ ∀ k, S k = true ↔ ∃ x ∈ xs.take i, ∃ y ∈ ys x, kf y = k, ⟨xs.length, rfl, Nat.zero_le _, F2, _, _, CW.start s2 hD rfl, Nat.le_refl _, fun k => by simp⟩, ?_⟩
  rintro i m H' ⟨rfl, hil, F', S, n, cw, hn, hS⟩
  have hh : Hold F2 none F' H' := cw.hold (Same.refl _) fun _ _ _ z => (nomatch z)
  by_cases hlt : i < xs.length
  · refine .inr ⟨hJ.go i F' H' hh hlt, fun H'' => ∃ F' S n, CW F2 H2 D (SetK P w D S n) F' H'' ∧ n ≤ 3 * (i + 1) ∧ ∀ k, S k = true ↔ ∃ x ∈ xs.take (i + 1), ∃ y ∈ ys x, kf y = k, fun H'' hn => ⟨_, by omega, rfl, hlt, hn⟩, fun v H'' hyv => ?_⟩
    obtain ⟨x, F3, hxi, g3, hf⟩ := hJ.yld i F' H' v H'' hh hyv hlt
    have hxm := List.mem_of_getElem? hxi
    have htk : xs.take (i + 1) = xs.take i ++ [x] := by rw [List.take_succ, hxi]; rfl
    have hyl := hy x hxm
    have cw3 := cw.gro g3
    refine hs x v F3 H'' hxm (gg.trans cw3.gr) cw3.sb hf _ fun σ2 hw hi1 step => ⟨hw, ?_⟩
    refine hi1 F3 H'' Gr.refl cw3.sb _ fun J1 F4 H4 g4 hJ1 => ?_
    have cw4 := cw3.gro g4
    refine ⟨fun j m H' => m = (ys x).length - j ∧ j ≤ (ys x).length ∧ ∃ F' S n, Same F4 F' ∧ CW F2 H2 D (SetK P w D S n) F' H' ∧ n ≤ 3 * i + j ∧ ∀ k, S k = true ↔ (∃ x ∈ xs.take i, ∃ y ∈ ys x, kf y = k) ∨ ∃ y ∈ (ys x).take j, kf y = k, ⟨_, rfl, Nat.zero_le _, F4, S, n, Same.refl _, cw4, hn, fun k => by simpa using hS k⟩, ?_⟩
    rintro j m1 H5 ⟨rfl, hjl, F5, S5, n5, sm5, cw5, hn5, hS5⟩
    have hh5 : Hold F4 none F5 H5 := ⟨sm5, cw5.sb, fun _ _ _ z => (nomatch z)⟩
    by_cases hlj : j < (ys x).length
    · refine .inr ⟨hJ1.go j F5 H5 hh5 hlj, fun H' => ∃ F' S n, Same F4 F' ∧ CW F2 H2 D (SetK P w D S n) F' H' ∧ n ≤ 3 * i + (j + 1) ∧ ∀ k, S k = true ↔ (∃ x ∈ xs.take i, ∃ y ∈ ys x, kf y = k) ∨ ∃ y ∈ (ys x).take (j + 1), kf y = k, fun H' hn => ⟨_, by omega, rfl, hlj, hn⟩, fun v1 H6 hyv1 => ?_⟩
      obtain ⟨y, F6, hyj, g6, hq⟩ := hJ1.yld j F5 H5 v1 H6 hh5 hyv1 hlj
      have cw6 := cw5.gro g6
      refine step y v1 F6 H6 (List.mem_of_getElem? hyj) cw6.sb hq _ fun σ3 hw3 hte => ⟨hw3, hte F6 H6 Gr.refl cw6.sb _ fun z F7 H7 g7 ez => ?_⟩
      have cw7 := cw6.gro g7
      refine ⟨kf y, S5, n5, ez, cw7.h, Nat.lt_of_le_of_lt (m := 100) (by omega) (by decide), F7, _, _, (sm5.trans g6.fx).trans g7.fx, cw7.set rfl, ?_, fun k => ?_⟩
      · split <;> omega
      · rw [List.take_succ, hyj, Bool.or_eq_true, hS5 k, decide_eq_true_eq]
        show _ ↔ _ ∨ ∃ y' ∈ (ys x).take j ++ [y], kf y' = k
        constructor
        · rintro ((h | ⟨y', h1, h2⟩) | h)
          · exact .inl h
          · exact .inr ⟨y', List.mem_append_left _ h1, h2⟩
          · exact .inr ⟨y, by simp, h.symm⟩
        · rintro (h | ⟨y', h1, h2⟩)
          · exact .inl (.inl h)
          · rcases List.mem_append.mp h1 with h1 | h1
            · exact .inl (.inr ⟨y', h1, h2⟩)
            · rw [List.mem_singleton.mp h1] at h2
              exact .inr h2.symm
    · have e : j = (ys x).length := by omega
      subst e
      refine .inl ⟨hJ1.stop _ F5 H5 hh5 (Nat.le_refl _), F5, S5, n5, cw5, by omega, fun k => ?_⟩
      rw [hS5 k, List.take_length, htk]
      constructor
      · rintro (⟨x', h1, h2⟩ | h)
        · exact ⟨x', List.mem_append_left _ h1, h2⟩
        · exact ⟨x, by simp, h⟩
      · rintro ⟨x', h1, h2⟩
        rcases List.mem_append.mp h1 with h1 | h1
        · exact .inl ⟨x', h1, h2⟩
        · rw [List.mem_singleton.mp h1] at h2
          exact .inr h2
  · have e : i = xs.length := by omega
    subst e
    rw [List.take_length] at hS
    obtain ⟨gz, sz⟩ := cw.frz
    exact .inl ⟨hJ.stop _ F' H' hh (Nat.le_refl _), hQ _ _ _ (gr2.trans gz) ⟨D, S, n, rfl, upd_same, hS⟩⟩
end
structure Cpl (m m' : Mach) (a : Int) : Prop where
  a1 : a = 1 ∨ a = -1
  eq : m' = shM m a
  ok : MOk (shM m a)
def spCp (K : PySem.W.Frag) : Sp := fun vs H Q _ => ∃ (F : Hp) (m : Mach) (v : V), vs = [v] ∧ Same F H ∧ pM K m F v ∧ MOk m ∧ Low m 2 ∧ Ret F H (isEx (fun a : Int => pM K (shM m a)) fun a => (a = 1 ∨ a = -1) ∧ MOk (shM m a)) Q
theorem sc_complement : FnScope ["machine", "used", "state", "target", "priority"] ["machine"] (defScope sComplement) := ⟨rfl, rfl, rfl, by decide +kernel, rfl, by decide +kernel, by decide +kernel⟩
section
variable {P : Program} {w : World} {K : PySem.W.Frag} {mg : Str → Option Value} {base : Heap}
theorem ok_complement (E : Tops K mg) : Cal P w K mg base 7 "complement" ["machine"] (spCp K) := by
  have c_mstates : Cam P w K mg base 1 "states" ["self"] (spMStates K) := ok_mstates E
  have c_shifted : Cal P w K mg base 6 "shifted" ["machine", "amount"] (spShift K) := ok_shifted E
  obtain ⟨_, m_MAX_PRIORITY⟩ := E.i_MAX_PRIORITY
  refine Cal.of (k := 6) E.f_Complement E.g_complement sc_complement (fun _ _ _ _ _ _ us hl => match us, hl with | [_], _ => rfl) (fun vs H Q Ex h => ?_) (fun cdv A outer s H vs Q Ex hr h => ?_)
  · obtain ⟨F, m, v, rfl, _⟩ := h
    rfl
  · obtain ⟨F, m, v, rfl, s0, hm, ok, low, k⟩ := h
    refine ⟨_, (pss_cons (ps_setS2 (i := 1) (own := [("state", 2), ("target", 3), ("priority", 4)]) (vs1 := [3, 4]) rfl sc_complement.nd rfl rfl (sw_trueS rfl rfl rfl (by decide +kernel)) (pi_listK (K := K) rfl (pe_cam0K (K := K) rfl c_mstates (hr.mono (by omega)) (pv 0))) (blkOk_by (N := ["machine", "used", "state", "target", "priority"]) (sc := defScope sComplement) (by decide +kernel)) (by decide) ⟨fun _ _ _ _ _ => (pg_name (i := 2) sc_complement.nd rfl (.inl rfl)), fun _ _ _ _ _ => (pg_tupK (K := K) (n := 2) rfl rfl (pgs_cons (pg_name (i := 3) sc_complement.nd rfl (.inl rfl)) (pgs_cons (pg_name (i := 4) sc_complement.nd rfl (.inl rfl)) pgs_nil))), fun _ _ _ _ _ => (pi_tupK (K := K) rfl (pv 2)), fun _ _ _ _ _ => (pv 4)⟩)
      (pss_cons (ps_if (pt_cmpR or_snotinK pe_int (pv 1) rfl)
        (pss_one (ps_ret (pe_cal c_shifted (hr.mono (by omega)) rfl (pa_cons (pv 0) (pa_cons (pe_un un_neg pe_int) pa_nil)))))
        pss_nil)
      (pss_cons (ps_if (pt_cmpR or_sinK (pe_glob (v := .int 3) rfl m_MAX_PRIORITY ⟨_, rfl⟩) (pv 1) rfl)
        (pss_one ps_never)
        pss_nil)
      (pss_one (ps_ret (pe_cal c_shifted (hr.mono (by omega)) rfl (pa_cons (pv 0) (pa_cons pe_int pa_nil)))))))), ?_⟩
    have W0 := Wr.start s0
    have hl3 : ∀ r ∈ m.tab, r.length ≤ 3 := fun r hr => by
      rw [ok.wd r hr]
      show m.al.cps.toList.length ≤ 3
      rw [Array.length_toList]
      exact (alph_size ok.al).2
    have key : ∀ {a : Int}, (a = 1 ∨ a = -1) → MOk (shM m a) → ∀ {F' H' : Hp} {tl : TE} {σ : L2.St}, Wr F H [] F' H' none → σ[0]? = some (some v) → EvP tl σ F' H' (isV (.int a)) → ∀ {D : Ends}, D.rt = Q → tRet (tCall (spShift K) [] E0 (tCons (tVar 0) (tCons tl tNil))) D σ H' := by
      intro a ha ok2 F' H' tl σ W h0 hl D hD
      have hm' := (inferInstance : Mn (pM K m)).mn W.gr.fx hm
      refine w_ret W (P := pM K (shM m a)) (ev_call W.same (ea_cons (P := pM K m) (ev_var h0 inferInstance hm') inferInstance (ea_cons hl inferInstance ea_nil)) fun F1 H1 vs Q1 g1 s1 hvs r1 => ?_) fun v1 F1 H1 g1 W1 h1 => ?_
      · cases hvs with
        | cons h1 hvs =>
          cases hvs with
          | cons h2 hvs =>
            cases hvs
            obtain rfl : _ = V.int a := h2
            exact ⟨F1, m, _, a, rfl, s1, h1, ok, ok2, r1⟩
      · rw [hD]
        exact k v1 F1 H1 W1.gr ⟨a, ⟨ha, ok2⟩, h1⟩
    refine w_seq (w_set W0 (P := pSet P w fun z => ∃ r ∈ m.tab, ∃ p ∈ r, (Sum.inl p.2 : Key) = z) (ev_sc2 (xs := m.tab) (f := pRow) (ys := id) (q := fun p : Pt => Nd.nd p) (kf := fun p : Pt => Sum.inl p.2) (ei_list (f := pRow) (ev_camS (R := isLst (m.tab.map pRow)) (ev_var rfl inferInstance hm) ea_nil fun F1 H1 x vs Q1 g1 s1 hx hvs r1 => by
        cases hvs
        exact ⟨F1, m, x, rfl, s1, hx, r1⟩) fun _ => inferInstance) ok.t2 hl3 fun r vr F1 H1 hr1 g1 s1 hvr Q1 hQ1 => ?_) fun vS F2 H2 g2 W2 hS => ?_)
    · have hvr : isTupD (r.map fun p => Nd.nd p) F1 vr := hvr
      refine hQ1 _ rfl (ei_tupD (f := fun p : Pt => Nd.nd p) (ev_var rfl inferInstance hvr) fun _ => inferInstance) fun p vp F3 H3 hp s3 hvp Q3 hQ3 => ?_
      have hvp : isTup [isV (.int p.1), isV (.int p.2)] F3 vp := hvp
      refine tg_tup2 s3 hvp fun vt vq ht hq => ?_
      obtain rfl : vt = _ := ht
      obtain rfl : vq = _ := hq
      exact hQ3 _ rfl (ev_varV rfl)
    · letI dp : DecidablePred fun z : Key => ∃ r ∈ m.tab, ∃ p ∈ r, (Sum.inl p.2 : Key) = z := fun _ => Classical.propDecidable _
      dsimp only
      refine w_seq (w_if W2 (b := !decide (∃ r ∈ m.tab, ∃ p ∈ r, (Sum.inl p.2 : Key) = Sum.inl 0)) (et_test (ev_op ev_c (ev_var (P := pSet P w fun z => ∃ r ∈ m.tab, ∃ p ∈ r, (Sum.inl p.2 : Key) = z) rfl inferInstance hS) inferInstance (op_sin (k := Sum.inl 0) (neg := true)))) (fun hb F3 H3 g3 W3 => ?_) fun hb F3 H3 g3 W3 => ?_)
      · have h0 : ¬ ∃ r ∈ m.tab, ∃ p ∈ r, (Sum.inl p.2 : Key) = Sum.inl 0 := by
          intro z
          rw [decide_eq_true z] at hb
          cases hb
        refine key (a := -1) (.inr rfl) (shM_ok ok fun r hr p hp => ?_) W3 rfl ?_ rfl
        · have := ok.rg r hr p hp
          have : p.2 ≠ 0 := fun z => h0 ⟨r, hr, p, hp, by rw [z]⟩
          omega
        · exact fun F4 H4 g4 s4 Q4 q4 => ev_c F4 H4 Gr.refl s4 _ fun x F5 H5 g5 e5 => ⟨1, e5, q4 _ F5 H5 g5 rfl⟩
      · have hS3 := (inferInstance : Mn (pSet P w fun z => ∃ r ∈ m.tab, ∃ p ∈ r, (Sum.inl p.2 : Key) = z)).mn g3.fx hS
        dsimp only
        refine w_seq (w_if W3 (b := decide (∃ r ∈ m.tab, ∃ p ∈ r, (Sum.inl p.2 : Key) = Sum.inl 3)) (et_test (ev_op ev_c (ev_var (P := pSet P w fun z => ∃ r ∈ m.tab, ∃ p ∈ r, (Sum.inl p.2 : Key) = z) rfl inferInstance hS3) inferInstance (op_sin (k := Sum.inl 3) (neg := false)))) (fun hb F4 H4 g4 W4 => ?_) fun hb F4 H4 g4 W4 => ?_)
        · obtain ⟨r, hr, p, hp, e⟩ := of_decide_eq_true hb
          have := low r hr p hp
          injection e with e
          omega
        · dsimp only
          refine key (a := 1) (.inl rfl) (shM_ok ok fun r hr p hp => ?_) W4 rfl ev_c rfl
          have := ok.rg r hr p hp
          have := low r hr p hp
          omega
end
end EL

set_option Elab.async false
set_option linter.all false
set_option maxRecDepth 100000
set_option maxHeartbeats 2000000
/-! the law's bag: a list that the draws change. Expressions that draw. -/
namespace EL
open PySem PySem.Spec PyProof.Rows L2
def BagC (F : Hp) (o : HO) : Prop := ∃ (v0 : V) (ns : List Int) (i r s : Int), o = .lst [v0, .int i, .int r, .int s] ∧ isIs ns F v0 ∧ ns.length ≤ 1000 ∧ 0 ≤ i ∧ 0 ≤ r ∧ 0 ≤ s ∧ s < 2147483647
theorem BagC.mn {F F' : Hp} {o : HO} (s : Same F F') (h : BagC F o) : BagC F' o := by
  obtain ⟨v0, ns, i, r, x, e, h0, t⟩ := h
  exact ⟨v0, ns, i, r, x, e, (inferInstance : Mn (isIs ns)).mn s h0, t⟩
theorem BagC.nt {F : Hp} {o : HO} (h : BagC F o) : notTup o = true := by
  obtain ⟨v0, ns, i, r, x, e, _⟩ := h
  rw [e]; rfl
structure BW (D : Addr) (F H : Hp) : Prop where
  sm : Same F H
  f : F D = none
  o : ∃ o, H D = some o ∧ BagC F o
/-- all but the bag stays, and may grow -/
abbrev GB (D : Addr) (F H F' H' : Hp) : Prop := Gr F (del H D) F' H'
section
variable {D : Addr} {F H F1 H1 F2 H2 : Hp}
theorem GB.refl : GB D F H F H := ⟨fun a u e => by
  by_cases z : a = D
  · rw [z, del_same] at e; cases e
  · rw [del_ne z] at e; exact e, Same.refl _, fun a o h1 h2 => by rw [h1] at h2; cases h2⟩
theorem del_none {a : Addr} (h : H a = none) : del H D a = none := by
  by_cases z : a = D
  · rw [z, del_same]
  · rw [del_ne z]; exact h
theorem GB.of_gr (g : Gr F H F1 H1) : GB D F H F1 H1 := ⟨fun a u e => by
  by_cases z : a = D
  · rw [z, del_same] at e; cases e
  · rw [del_ne z] at e; exact g.ex a u e, g.fx, fun a o h1 h2 => by
  obtain ⟨n1, n2⟩ := g.nw a o h1 h2
  exact ⟨n1, n2.imp del_none id⟩⟩
theorem GB.trans (f1 : F1 D = none) (a : GB D F H F1 H1) (b : GB D F1 H1 F2 H2) : GB D F H F2 H2 := by
  have ex : Same (del H D) (del H1 D) := fun x u e => by
    have z : x ≠ D := fun z => by rw [z, del_same] at e; cases e
    rw [del_ne z]
    exact a.ex x u e
  refine ⟨ex.trans b.ex, a.fx.trans b.fx, fun x o h1 h2 => ?_⟩
  cases q : F1 x with
  | none =>
    obtain ⟨n1, n2⟩ := b.nw x o q h2
    exact ⟨n1, n2.imp ex.free id⟩
  | some u =>
    obtain ⟨n1, n2⟩ := a.nw x u h1 q
    have e := b.fx x u q
    rw [h2] at e
    cases e
    have z : x ≠ D := fun z => by rw [z, f1] at q; cases q
    exact ⟨b.ex x _ (by rw [del_ne z]; exact n1), n2⟩
theorem BW.gro (b : BW D F H) (g : Gr F H F1 H1) : BW D F1 H1 := by
  obtain ⟨o, ho, hb⟩ := b.o
  exact ⟨Gr.same b.sm g, g.none b.f ho hb.nt, o, g.ex _ _ ho, hb.mn g.fx⟩
/-- something else of one's own, unknown to the callee -/
theorem GB.keep {a : Addr} {u : HO} (g : GB D F H F1 H1) (ne : a ≠ D) (f : F a = none) (h : H a = some u) (nt : notTup u = true) : F1 a = none ∧ H1 a = some u := by
  have h' : del H D a = some u := by rw [del_ne ne]; exact h
  exact ⟨Gr.none g f h' nt, g.ex _ _ h'⟩
end
/-! ### expressions that may draw -/
def EvB (D : Addr) (te : TE) (σ : L2.St) (F : Hp) (P : Pr) : Prop := ∀ F1 H1, Same F F1 → BW D F1 H1 → ∀ Q : VK, (∀ v F2 H2, GB D F1 H1 F2 H2 → BW D F2 H2 → P F2 v → Q v H2) → te σ H1 Q
def EvAB (D : Addr) (ta : TA) (σ : L2.St) (F : Hp) (Ps : List Pr) : Prop := ∀ F1 H1, Same F F1 → BW D F1 H1 → ∀ Q : List V → Hp → Prop, (∀ vs F2 H2, GB D F1 H1 F2 H2 → BW D F2 H2 → PrL F2 Ps vs → Q vs H2) → ta σ H1 Q
/-- what a callee that draws hands back -/
def RetB (D : Addr) (F H : Hp) (P : Pr) (Q : VK) : Prop := ∀ v F' H', GB D F H F' H' → BW D F' H' → P F' v → Q v H'
section
variable {D : Addr} {K : PySem.W.Frag} {σ : L2.St} {F : Hp} {ta tb te : TE} {tA tr : TA} {P Pa Pb R : Pr} {Ps : List Pr} {r : R2} {sp : Sp} {v : V}
theorem EvB.imp (h : EvB D te σ F Pa) (i : ∀ F v, Pa F v → P F v) : EvB D te σ F P := fun F1 H1 s b Q q => h F1 H1 s b Q fun v F2 H2 g b2 p => q v F2 H2 g b2 (i _ _ p)
theorem EvB.mono {F' : Hp} (h : EvB D te σ F P) (s : Same F F') : EvB D te σ F' P := fun F1 H1 s1 b Q q => h F1 H1 (s.trans s1) b Q q
theorem EvAB.mono {F' : Hp} (h : EvAB D tA σ F Ps) (s : Same F F') : EvAB D tA σ F' Ps := fun F1 H1 s1 b Q q => h F1 H1 (s.trans s1) b Q q
/-- one that does not draw -/
theorem eb_of (h : ∀ F1 H1, Same F F1 → Same F1 H1 → EvP te σ F1 H1 P) : EvB D te σ F P := fun F1 H1 s b Q q => h F1 H1 s b.sm F1 H1 Gr.refl (Sub.of b.sm) Q fun v F2 H2 g p => q v F2 H2 (GB.of_gr g) (b.gro g) p
theorem eb_var {i : Nat} (h : σ[i]? = some (some v)) (m : Mn P) (hp : P F v) : EvB D (tVar i) σ F P := fun F1 H1 s b Q q => ⟨v, h, q v F1 H1 GB.refl b (m.mn s hp)⟩
theorem eb_varV {i : Nat} (h : σ[i]? = some (some v)) : EvB D (tVar i) σ F (isV v) := fun F1 H1 s b Q q => ⟨v, h, q v F1 H1 GB.refl b rfl⟩
theorem eb_c : EvB D (tC v) σ F (isV v) := fun F1 H1 s b Q q => q v F1 H1 GB.refl b rfl
theorem eab_nil : EvAB D tNil σ F [] := fun F1 H1 s b Q q => q [] F1 H1 GB.refl b .nil
theorem eab_cons (h : EvB D ta σ F P) (m : Mn P) (hr : EvAB D tr σ F Ps) : EvAB D (tCons ta tr) σ F (P :: Ps) := fun F1 H1 s b Q q =>
  h F1 H1 s b _ fun v F2 H2 g2 b2 p => hr F2 H2 (s.trans g2.fx) b2 _ fun vs F3 H3 g3 b3 ps => q _ F3 H3 (GB.trans b2.f g2 g3) b3 (.cons (m.mn g3.fx p) ps)
theorem eb_op (ha : EvB D ta σ F Pa) (hb : EvB D tb σ F Pb) (ma : Mn Pa) (hr : ∀ F1 H1, Same F F1 → Same F1 H1 → OpP r Pa Pb P F1 H1) : EvB D (tOp r ta tb) σ F P := fun F1 H1 s b Q q =>
  ha F1 H1 s b _ fun x F2 H2 g2 b2 p => hb F2 H2 (s.trans g2.fx) b2 _ fun y F3 H3 g3 b3 p' => by
    have g := GB.trans b2.f g2 g3
    exact hr F3 H3 (s.trans g.fx) b3.sm F3 H3 x y Gr.refl (Sub.of b3.sm) (ma.mn g3.fx p) p' Q fun v F4 H4 g4 p4 => q v F4 H4 (GB.trans b3.f g (GB.of_gr g4)) (b3.gro g4) p4
theorem eb_cb {rc : List V → Hp → VK → Prop} (h : EvAB D tA σ F Ps) (hr : ∀ F1 H1, Same F F1 → Same F1 H1 → CaP rc Ps P F1 H1) : EvB D (tCB rc tA) σ F P := fun F1 H1 s b Q q =>
  h F1 H1 s b _ fun vs F2 H2 g2 b2 ps => hr F2 H2 (s.trans g2.fx) b2.sm F2 H2 vs Gr.refl (Sub.of b2.sm) ps Q fun v F3 H3 g3 p => q v F3 H3 (GB.trans b2.f g2 (GB.of_gr g3)) (b2.gro g3) p
theorem eb_tup (h : EvAB D tA σ F Ps) (m : MnL Ps) (hl : Ps.length ≤ 1000 := by simp) : EvB D (tTup tA) σ F (isTup Ps) := fun F1 H1 s b Q q =>
  h F1 H1 s b _ fun vs F2 H2 g2 b2 ps => ⟨by rw [ps.length]; exact Nat.le_trans hl (by decide), fun p np => by
    have f := b2.sm.free np
    have gn : Gr F2 H2 (upd F2 p (.tup vs)) (upd H2 p (.tup vs)) := Gr.newF np f
    exact q _ _ _ (GB.trans b2.f g2 (GB.of_gr gn)) (b2.gro gn) ⟨p, vs, rfl, upd_same, m.mn gn.fx ps⟩⟩
theorem eb_lst (h : EvAB D tA σ F Ps) (m : MnL Ps) (hl : Ps.length ≤ 1000 := by simp) : EvB D (tLst tA) σ F (isLst Ps) := fun F1 H1 s b Q q =>
  h F1 H1 s b _ fun vs F2 H2 g2 b2 ps => ⟨by rw [ps.length]; exact Nat.le_trans hl (by decide), fun p np => by
    have f := b2.sm.free np
    have gn : Gr F2 H2 (upd F2 p (.lst vs)) (upd H2 p (.lst vs)) := Gr.newF np f
    exact q _ _ _ (GB.trans b2.f g2 (GB.of_gr gn)) (b2.gro gn) ⟨p, vs, rfl, upd_same, m.mn gn.fx ps⟩⟩
/-- a call of a def that does not draw -/
theorem eb_call (h : EvAB D tA σ F Ps) (hs : ∀ F1 H1 vs Q, Same F F1 → Same F1 H1 → PrL F1 Ps vs → Ret F1 H1 R Q → sp vs H1 Q E0) : EvB D (tCall sp [] E0 tA) σ F R := fun F1 H1 s b Q q =>
  h F1 H1 s b _ fun vs F2 H2 g2 b2 ps => by
    rw [List.append_nil]
    exact hs F2 H2 vs Q (s.trans g2.fx) b2.sm ps fun v F3 H3 g3 p => q v F3 H3 (GB.trans b2.f g2 (GB.of_gr g3)) (b2.gro g3) p
/-- a call of one that does -/
theorem eb_callB (h : EvAB D tA σ F Ps) (hs : ∀ F1 H1 vs Q, Same F F1 → BW D F1 H1 → PrL F1 Ps vs → RetB D F1 H1 R Q → sp vs H1 Q E0) : EvB D (tCall sp [] E0 tA) σ F R := fun F1 H1 s b Q q =>
  h F1 H1 s b _ fun vs F2 H2 g2 b2 ps => by
    rw [List.append_nil]
    exact hs F2 H2 vs Q (s.trans g2.fx) b2 ps fun v F3 H3 g3 b3 p => q v F3 H3 (GB.trans b2.f g2 g3) b3 p
end
/-! ### sources, comprehensions -/
def EvIB (D : Addr) {α : Type} (wi : TI) (σ : L2.St) (F : Hp) (Cx : List α → Prop) (Y : Nat → α → Pr) : Prop := ∀ F1 H1, Same F F1 → BW D F1 H1 → ∀ R : It → Hp → Prop, (∀ J F2 H2 xs, GB D F1 H1 F2 H2 → BW D F2 H2 → Cx xs → Src J F2 none xs Y → R J H2) → wi σ H1 R
section
variable {D : Addr} {K : PySem.W.Frag} {σ : L2.St} {F : Hp} {te : TE} {α β : Type} {Y : Nat → α → Pr}
theorem eib_of {wi : TI} {xs : List α} (h : ∀ F1 H1, Same F F1 → Same F1 H1 → EvI wi σ F1 H1 none xs Y) : EvIB D wi σ F (fun l => l = xs) Y := fun F1 H1 s b R q =>
  h F1 H1 s b.sm F1 H1 Gr.refl (Sub.of b.sm) R fun J F2 H2 g hJ => q J F2 H2 xs (GB.of_gr g) (b.gro g) rfl hJ
/-- range(n), n drawn -/
theorem eib_rng {tA : TA} {C : Int → Prop} (h : EvAB D tA σ F [isEx (fun n : Int => isV (.int n)) C]) (hC : ∀ n, C n → 0 ≤ n ∧ n ≤ 1000) : EvIB D (iRng1 tA) σ F (fun l : List Nat => ∃ n, C n ∧ l = List.range n.toNat) (fun _ i => isV (.int (i : Nat))) := fun F1 H1 s b R q =>
  h F1 H1 s b _ fun vs F2 H2 g2 b2 ps => by
    cases ps with
    | cons h1 ps =>
      cases ps
      obtain ⟨n, hn, rfl⟩ := h1
      have hr := hC n hn
      have e : ((n.toNat : Nat) : Int) = n := by omega
      have := ei_rng1 (σ := σ) (F := F2) (H := H2) (k := none) (ta := tCons (tC (.int (n.toNat : Nat))) tNil) (n := n.toNat) (ea_cons ev_c inferInstance ea_nil) (by omega) F2 H2 Gr.refl (Sub.of b2.sm) R fun J F3 H3 g3 hJ => q J F3 H3 _ (GB.trans b2.f g2 (GB.of_gr g3)) (b2.gro g3) ⟨n, hn, rfl⟩ hJ
      rw [e] at this
      exact this
/-- [te for _ in ..], each item some y with C y -/
theorem eb_lc {wi : TI} {g : TG} {vs : List Nat} {Cx : List α → Prop} {f : β → Pr} {C : β → Prop} (hi : EvIB D wi σ F Cx Y) (hl : ∀ xs, Cx xs → xs.length ≤ 1000) (mf : ∀ y, Mn (f y))
    (hs : ∀ i x v F1 H1, Same F F1 → BW D F1 H1 → Y i x F1 v → ∀ Q : L2.St → Hp → Prop, (∀ σ2, wipe σ2 vs = wipe σ vs → EvB D te σ2 F1 (isEx f C) → Q σ2 H1) → g v (wipe σ vs) H1 Q) :
    EvB D (tLc wi g tYes te vs) σ F (isEx (fun ys : List β => isLst (ys.map f)) fun ys => (∃ xs, Cx xs ∧ ys.length = xs.length) ∧ ∀ y ∈ ys, C y) := fun F1 H1 s b Q hQ => by
  refine hi F1 H1 s b _ fun J F2 H2 xs g2 b2 hx hJ A hA => ?_
  have hln := hl xs hx
  have nA : A ≠ D := fun z => by
    obtain ⟨o, ho, _⟩ := b2.o
    rw [← z, hA] at ho; cases ho
  have g0 : Gr F2 H2 F2 (upd H2 A (.lst [])) := Gr.new hA
  refine ⟨fun i m H' => m = xs.length - i ∧ i ≤ xs.length ∧ ∃ (F' : Hp) (acc : List V) (ys : List β), GB D F2 H2 F' H' ∧ BW D F' H' ∧ F' A = none ∧ H' A = some (.lst acc) ∧ ys.length = i ∧ (∀ y ∈ ys, C y) ∧ PrL F' (ys.map f) acc, ⟨xs.length, rfl, Nat.zero_le _, F2, [], [], GB.of_gr g0, b2.gro g0, b2.sm.free hA, upd_same, rfl, fun y hy => (by cases hy), .nil⟩, ?_⟩
  rintro i m H' ⟨rfl, hil, F', acc, ys, g3, b3, fA, hA3, hly, hC, hp⟩
  have hh : Hold F2 none F' H' := ⟨g3.fx, Sub.of b3.sm, fun _ _ _ z => (nomatch z)⟩
  by_cases hlt : i < xs.length
  · refine .inr ⟨hJ.go i F' H' hh hlt, fun H' => ∃ (F' : Hp) (acc : List V) (ys : List β), GB D F2 H2 F' H' ∧ BW D F' H' ∧ F' A = none ∧ H' A = some (.lst acc) ∧ ys.length = i + 1 ∧ (∀ y ∈ ys, C y) ∧ PrL F' (ys.map f) acc, fun H'' hn => ⟨_, by omega, rfl, hlt, hn⟩, fun v H4 hyv => ?_⟩
    obtain ⟨x, F4, hxi, g4, hf⟩ := hJ.yld i F' H' v H4 hh hyv hlt
    have b4 := b3.gro g4
    have k4 := (GB.of_gr (D := D) g4).keep nA fA hA3 rfl
    refine hs i x v F4 H4 ((s.trans g2.fx).trans (g3.fx.trans g4.fx)) b4 hf _ fun σ2 hw he => ⟨hw, ?_⟩
    show te σ2 H4 _
    refine he F4 H4 (Same.refl _) b4 _ fun y F5 H5 g5 b5 ⟨z, hz, hy⟩ => ?_
    have k5 := g5.keep nA k4.1 k4.2 rfl
    have s5 := g4.fx.trans g5.fx
    have gg := GB.trans b4.f (GB.trans b3.f g3 (GB.of_gr g4)) g5
    have la := hp.length
    rw [List.length_map] at la
    refine ⟨acc, k5.2, Nat.lt_of_le_of_lt (m := 100000) (by omega) (by decide), F5, acc ++ [y], ys ++ [z], ⟨fun a u e => ?_, gg.fx, fun a u e1 e2 => ?_⟩, ⟨fun a u e => ?_, b5.f, ?_⟩, k5.1, upd_same, by rw [List.length_append]; show ys.length + 1 = _; rw [hly], fun y' hy' => ?_, ?_⟩
    · have ne : a ≠ A := fun z => by rw [z, del_none hA] at e; cases e
      rw [upd_ne ne]
      exact gg.ex a u e
    · have ne : a ≠ A := fun z => by rw [z, k5.1] at e2; cases e2
      rw [upd_ne ne]
      exact gg.nw a u e1 e2
    · have ne : a ≠ A := fun z => by rw [z, k5.1] at e; cases e
      rw [upd_ne ne]
      exact b5.sm a u e
    · obtain ⟨o, ho, hb⟩ := b5.o
      exact ⟨o, by rw [upd_ne nA.symm]; exact ho, hb⟩
    · rcases List.mem_append.mp hy' with q | q
      · exact hC y' q
      · rw [List.mem_singleton.mp q]; exact hz
    · rw [List.map_append]
      exact ((mnl_map mf _ : MnL (ys.map f)).mn s5 hp).append (.one hy)
  · have e : i = xs.length := by omega
    subst e
    have sz : Same F' (upd F' A (.lst acc)) := same_new fA
    refine .inl ⟨hJ.stop _ F' H' hh (Nat.le_refl _), hQ _ (upd F' A (.lst acc)) _ (GB.trans b2.f g2 ⟨g3.ex, g3.fx.trans sz, fun a u e1 e2 => ?_⟩) ⟨fun a u e => ?_, ?_, ?_⟩ ⟨ys, ⟨⟨xs, hx, hly⟩, hC⟩, A, acc, rfl, upd_same, (mnl_map mf _ : MnL (ys.map f)).mn sz hp⟩⟩
    · by_cases z : a = A
      · subst z
        rw [upd_same] at e2
        cases e2
        exact ⟨hA3, .inl (del_none hA)⟩
      · rw [upd_ne z] at e2
        exact g3.nw a u e1 e2
    · by_cases z : a = A
      · subst z
        rw [upd_same] at e
        cases e
        exact hA3
      · rw [upd_ne z] at e
        exact b3.sm a u e
    · rw [upd_ne nA.symm]; exact b3.f
    · obtain ⟨o, ho, hb⟩ := b3.o
      exact ⟨o, ho, hb.mn sz⟩
end
/-! ### statements -/
section
variable {K : PySem.W.Frag} {F0 H0 F H : Hp} {L : List (Addr × HO)} {σ : L2.St} {P : Pr} {te ta : TE} {tA : TA} {E : Ends} {D : Addr} {o : HO} {j : Nat}
theorem Wr.bw (W : Wr F0 H0 L F H none) (hj : L[j]? = some (D, o)) (hb : BagC F o) : BW D F H := ⟨W.same, W.f hj, o, W.at hj, hb⟩
theorem Wr.gb (W : Wr F0 H0 L F H none) (hj : L[j]? = some (D, o)) {F' H' : Hp} (g : GB D F H F' H') (b : BW D F' H') : ∃ o', Wr F0 H0 (L.set j (D, o')) F' H' none ∧ BagC F' o' := by
  obtain ⟨o', ho, hb⟩ := b.o
  exact ⟨o', W.callO hj g b.f ho hb.nt, hb⟩
theorem w_asgB {g : TG} (W : Wr F0 H0 L F H none) (hj : L[j]? = some (D, o)) (hb : BagC F o) (h : EvB D te σ F P)
    (c : ∀ v F1 H1 o', Same F F1 → Wr F0 H0 (L.set j (D, o')) F1 H1 none → BagC F1 o' → P F1 v → g v σ H1 E.nx) : tAsg te g E σ H :=
  h F H (Same.refl _) (W.bw hj hb) _ fun v F2 H2 g b p => by
    obtain ⟨o', W', hb'⟩ := W.gb hj g b
    exact c v F2 H2 o' g.fx W' hb' p
theorem w_setB (W : Wr F0 H0 L F H none) {i : Nat} (hj : L[j]? = some (D, o)) (hb : BagC F o) (h : EvB D te σ F P)
    (c : ∀ v F1 H1 o', Same F F1 → Wr F0 H0 (L.set j (D, o')) F1 H1 none → BagC F1 o' → P F1 v → E.nx (σ.set i (some v)) H1) : tAsg te (gName i) E σ H :=
  w_asgB W hj hb h c
theorem w_retB (W : Wr F0 H0 L F H none) (hj : L[j]? = some (D, o)) (hb : BagC F o) (h : EvB D te σ F P)
    (c : ∀ v F1 H1 o', Same F F1 → Wr F0 H0 (L.set j (D, o')) F1 H1 none → BagC F1 o' → P F1 v → E.rt v H1) : tRet te E σ H :=
  h F H (Same.refl _) (W.bw hj hb) _ fun v F2 H2 g b p => by
    obtain ⟨o', W', hb'⟩ := W.gb hj g b
    exact c v F2 H2 o' g.fx W' hb' p
/-- xs.append(e), e drawn -/
theorem w_appB (W : Wr F0 H0 L F H none) {i : Nat} {l : Addr} {xs : List V} (hi : L[i]? = some (l, .lst xs)) (hj : L[j]? = some (D, o)) (ij : i ≠ j) (hb : BagC F o) {sv : Nat} (hv : σ[sv]? = some (some (.ref l))) (h : EvB D te σ F P) (hz : xs.length < 100000)
    (c : ∀ v F1 H1 o', Same F F1 → Wr F0 H0 ((L.set j (D, o')).set i (l, .lst (xs ++ [v]))) F1 H1 none → BagC F1 o' → P F1 v → E.nx σ H1) : tDrop (tBM K "list" rAppend (tVar sv) (tCons te tNil)) E σ H :=
  ⟨_, hv, Or.inl ⟨rfl, _, SqL.of (W.at hi)⟩, h F H (Same.refl _) (W.bw hj hb) _ fun v F2 H2 g b p => by
    obtain ⟨o', W', hb'⟩ := W.gb hj g b
    have hi' : (L.set j (D, o'))[i]? = some (l, .lst xs) := by rw [List.getElem?_set_ne (Ne.symm ij)]; exact hi
    exact ⟨l, xs, v, rfl, rfl, W'.at hi', Nat.lt_of_lt_of_le hz (by decide), c v F2 _ o' g.fx (W'.set hi' rfl) hb' p⟩⟩
/-- x = [e, ..], a list of one's own, items drawn -/
theorem w_newLsB (W : Wr F0 H0 L F H none) {i : Nat} {Ps : List Pr} (hj : L[j]? = some (D, o)) (hb : BagC F o) (h : EvAB D tA σ F Ps) (hl : Ps.length ≤ 1000)
    (c : ∀ p vs F1 H1 o', Same F F1 → Wr F0 H0 ((p, .lst vs) :: L.set j (D, o')) F1 H1 none → BagC F1 o' → PrL F1 Ps vs → E.nx (σ.set i (some (.ref p))) H1) : tAsg (tLst tA) (gName i) E σ H :=
  h F H (Same.refl _) (W.bw hj hb) _ fun vs F2 H2 g b ps => ⟨by rw [ps.length]; exact Nat.le_trans hl (by decide), fun p hp => by
    obtain ⟨o', W', hb'⟩ := W.gb hj g b
    exact c p vs F2 _ o' g.fx (W'.new hp rfl) hb' ps⟩
/-- x, y = e, [] by way of the tuple, e drawn -/
theorem w_tupNew (W : Wr F0 H0 L F H none) {i l : Nat} (hj : L[j]? = some (D, o)) (hb : BagC F o) (h : EvB D te σ F P) (m : Mn P)
    (c : ∀ p v F1 H1 o', Same F F1 → Wr F0 H0 ((p, .lst []) :: L.set j (D, o')) F1 H1 none → BagC F1 o' → P F1 v → E.nx ((σ.set i (some v)).set l (some (.ref p))) H1) :
    tAsg (tTup (tCons te (tCons (tLst tNil) tNil))) (gTup K 2 (gCons (gName i) (gCons (gName l) gNil))) E σ H :=
  h F H (Same.refl _) (W.bw hj hb) _ fun v F2 H2 g b p => by
    obtain ⟨o', W', hb'⟩ := W.gb hj g b
    refine ⟨Nat.zero_le _, fun q hq => ⟨(by decide : 2 ≤ sizeLine), fun t ht => ?_⟩⟩
    have W6 := (W'.new (o := .lst []) hq rfl).gro (Gr.new (o := .tup [v, .ref q]) ht)
    exact ⟨t, _, rfl, SqT.of upd_same, rfl, _, _, rfl, _, _, rfl, rfl, c q v F2 _ o' g.fx W6 hb' p⟩
/-- a new thing that a callee made -/
theorem Wr.newG (W : Wr F0 H0 L F H none) {F' H' : Hp} {p : Addr} {u : HO} (g : Gr F H F' H') (h0 : H p = none) (f : F' p = none) (h : H' p = some u) (nt : notTup u = true) : Wr F0 H0 ((p, u) :: L) F' H' none := by
  obtain ⟨f1, f2, f3⟩ := W.free h0
  have W1 := W.gro g
  refine ⟨W1.gr, W1.sm, W1.lk, List.nodup_cons.mpr ⟨f3, W.nd⟩, fun q hq => ?_⟩
  rcases List.mem_cons.mp hq with e | hq
  · subst e; exact ⟨f1, f, h, nt⟩
  · exact W1.ow q hq
/-- an item of a list of one's own -/
theorem ev_ixO {tb : TE} {xs : List V} {i : Int} {v : V} (hH : H D = some (.lst xs)) (ha : EvP ta σ F H (isV (.ref D))) (hb : EvP tb σ F H (isV (.int i))) (hat : atI xs i = some v) : EvP (tOp (rIxL K) ta tb) σ F H (isV v) :=
  ev_op ha hb inferInstance (op_val fun F1 H1 x y g s a b Q q => by
    obtain rfl : x = .ref D := a
    obtain rfl : y = .int i := b
    exact ⟨D, xs, i, v, rfl, rfl, SqL.of (g.ex _ _ hH), hat, q⟩)
/-- xs[i] = e on a list of one's own -/
theorem w_putO (W : Wr F0 H0 L F H none) {sv : Nat} {xs : List V} {i : Int} {n : Nat} (hj : L[j]? = some (D, .lst xs)) (hv : σ[sv]? = some (some (.ref D))) (h : EvP te σ F H P) (hi : ixN xs.length i = some n)
    (c : ∀ v F1 H1, Same F F1 → Wr F0 H0 (L.set j (D, .lst (xs.set n v))) F1 H1 none → P F1 v → E.nx σ H1) : tAsg te (gSub (tVar sv) (tC (.int i)) rSetL) E σ H :=
  h F H Gr.refl W.sub _ fun v F2 H2 g p => by
    have W2 := W.gro g
    exact ⟨_, hv, D, xs, i, n, rfl, rfl, W2.at hj, hi, c v F2 _ g.fx (W2.set hj rfl) p⟩
end
end EL

set_option Elab.async false
set_option linter.all false
set_option maxRecDepth 100000
set_option maxHeartbeats 2000000
namespace EL
open PySem PySem.Spec PyProof.Rows L2
theorem op_modP {F H : Hp} {i j : Int} (h : 0 < j) : OpP (rI (fun _ j => 0 < j) fun i j => .int (i % j)) (isV (.int i)) (isV (.int j)) (isV (.int (i % j))) F H := op_I h
theorem op_fmodP {F H : Hp} {i j : Int} (h : j ≠ 0) : OpP (rI (fun _ j => j ≠ 0) fun i j => .int (i.fmod j)) (isV (.int i)) (isV (.int j)) (isV (.int (i.fmod j))) F H := op_I h
def spPull : Sp := fun vs H Q _ => ∃ (F : Hp) (D : Addr) (n : Int), vs = [.ref D, .int n] ∧ BW D F H ∧ 1 ≤ n ∧ n ≤ 1000 ∧ RetB D F H (isEx (fun d : Int => isV (.int d)) fun d => 0 ≤ d ∧ d < n) Q
theorem sc_law_pull : FnScope ["_law_bag_here", "_law_count", "_law_cell", "_law_digit", "_law_mixed"] ["_law_bag_here", "_law_count"] (defScope sLawPull) := ⟨rfl, rfl, rfl, by decide +kernel, rfl, by decide +kernel, by decide +kernel⟩
section
variable {P : Program} {w : World} {K : PySem.W.Frag} {mg : Str → Option Value} {base : Heap}
theorem ok_pull (E : Tops K mg) : Cal P w K mg base 1 "_law_pull" ["_law_bag_here", "_law_count"] spPull := by
  refine Cal.of E.f_LawPull E.g__law_pull sc_law_pull (fun _ _ _ _ _ _ us hl => match us, hl with | [_, _], _ => rfl) (fun vs H Q Ex h => ?_) (fun cdv A outer s H vs Q Ex hr h => ?_)
  · obtain ⟨F, D, n, rfl, _⟩ := h
    rfl
  · obtain ⟨F, D, n, rfl, bw, n1, n2, k⟩ := h
    refine ⟨_, (pss_cons (ps_if (PW.pt (pw_and (pt_cmpR op_lt (pe_ix (ix_listK (K := K) rfl) (pv 0) pe_int (fun _ _ => rfl)) (pv 1) (nomark _)) (pw_and1 (pt_cmpR op_lt (pe_ix (ix_listK (K := K) rfl) (pv 0) pe_int (fun _ _ => rfl)) (pe_callB (call_len_seqK (K := K) rfl) (by rfl) E.n_len bt_len (pa_cons (pe_ix (ix_listK (K := K) rfl) (pv 0) pe_int (fun _ _ => rfl)) pa_nil)) (nomark _)))))
        (pss_cons (ps_set (i := 2) sc_law_pull.nd rfl (.inl rfl) (pe_ix (ix_listK (K := K) rfl) (pe_ix (ix_listK (K := K) rfl) (pv 0) pe_int (fun _ _ => rfl)) (pe_ix (ix_listK (K := K) rfl) (pv 0) pe_int (fun _ _ => rfl)) (fun _ _ => rfl)))
        (pss_cons (ps_asg (pe_op op_add (pe_ix (ix_listK (K := K) rfl) (pv 0) pe_int (fun _ _ => rfl)) pe_int) (pg_sub (pv 0) pe_int set_list))
        (pss_cons (ps_asg pe_int (pg_sub (pv 0) pe_int set_list))
        (pss_one (ps_if (pt_cmpR op_ge (pv 2) (pe_op op_pow pe_int pe_int) (nomark _))
          (pss_one (ps_asg (pv 2) (pg_sub (pv 0) pe_int set_list)))
          (pss_one (ps_asg (pe_op op_mod (pe_op op_add (pe_op op_add (pe_op op_mul (pe_ix (ix_listK (K := K) rfl) (pv 0) pe_int (fun _ _ => rfl)) pe_int) (pe_op op_mul (pe_op op_mod (pv 2) pe_int) pe_int)) pe_int) pe_int) (pg_sub (pv 0) pe_int set_list))))))))
        pss_nil)
      (pss_cons (ps_if (pt_cmpR op_ge (pe_ix (ix_listK (K := K) rfl) (pv 0) pe_int (fun _ _ => rfl)) (pv 1) (nomark _))
        (pss_cons (ps_set (i := 3) sc_law_pull.nd rfl (.inl rfl) (pe_op op_modN (pe_ix (ix_listK (K := K) rfl) (pv 0) pe_int (fun _ _ => rfl)) (pv 1)))
        (pss_cons (ps_asg (pe_op op_fdivN (pe_ix (ix_listK (K := K) rfl) (pv 0) pe_int (fun _ _ => rfl)) (pv 1)) (pg_sub (pv 0) pe_int set_list))
        (pss_one (ps_ret (pv 3)))))
        pss_nil)
      (pss_cons (ps_set (i := 4) sc_law_pull.nd rfl (.inl rfl) (pe_op op_add (pe_op op_add (pe_op op_mul (pe_op op_mod (pe_op op_mul (pe_ix (ix_listK (K := K) rfl) (pv 0) pe_int (fun _ _ => rfl)) (pe_ix (ix_listK (K := K) rfl) (pv 0) pe_int (fun _ _ => rfl))) pe_int) pe_int) (pe_op op_mul (pe_ix (ix_listK (K := K) rfl) (pv 0) pe_int (fun _ _ => rfl)) pe_int)) pe_int))
      (pss_cons (ps_asg (pe_op op_mod (pv 4) pe_int) (pg_sub (pv 0) pe_int set_list))
      (pss_one (ps_ret (pe_op op_modN (pe_op op_add (pe_op op_fdiv (pe_ix (ix_listK (K := K) rfl) (pv 0) pe_int (fun _ _ => rfl)) pe_int) (pe_op op_mul (pe_op op_mod (pe_ix (ix_listK (K := K) rfl) (pv 0) pe_int (fun _ _ => rfl)) pe_int) pe_int)) (pv 1)))))))), ?_⟩
    obtain ⟨o, ho, hb⟩ := bw.o
    have W0 := Wr.startO bw.sm bw.f ho hb.nt
    obtain ⟨v0, ns, i, r, s, rfl, hv0, hnl, hi, hr0, hs0, hs1⟩ := hb
    -- reads
    have ix : ∀ {σ : L2.St} {F' H' : Hp} {i' r' s' : Int} {j : Int} {x : V}, Wr F (del H D) [(D, .lst [v0, .int i', .int r', .int s'])] F' H' none → σ[0]? = some (some (.ref D)) → atI [v0, V.int i', .int r', .int s'] j = some x → EvP (tOp (rIxL K) (tVar 0) (tC (.int j))) σ F' H' (isV x) := fun {σ F' H' i' r' s' j x} W h0 hat => ev_ixO (W.at (j := 0) rfl) (ev_varV h0) ev_c hat
    have fin : ∀ {F' H' : Hp} {i' r' s' d : Int}, Wr F (del H D) [(D, .lst [v0, .int i', .int r', .int s'])] F' H' none → 0 ≤ i' → 0 ≤ r' → 0 ≤ s' → s' < 2147483647 → 0 ≤ d → d < n → Q (.int d) H' := fun {F' H' i' r' s' d} W a1 a2 a3 a4 a5 a6 =>
      k _ F' H' W.gr ⟨W.same, W.f (j := 0) rfl, _, W.at (j := 0) rfl, v0, ns, i', r', s', rfl, (inferInstance : Mn (isIs ns)).mn W.gr.fx hv0, hnl, a1, a2, a3, a4⟩ ⟨d, ⟨a5, a6⟩, rfl⟩
    refine w_seq ?_
    generalize hE : Ends.mk _ _ _ _ = EE
    have rest : ∀ {F' H' : Hp} {v2 : Option V} {i' r' s' : Int}, Wr F (del H D) [(D, .lst [v0, .int i', .int r', .int s'])] F' H' none → 0 ≤ i' → 0 ≤ r' → 0 ≤ s' → s' < 2147483647 → EE.nx [some (.ref D), some (.int n), v2, none, none] H' := by
      intro F1 H1 v2 i r s W1 hi hr0 hs0 hs1
      subst hE
      dsimp only
      refine w_seq (w_if W1 (b := decide (r ≥ n)) (et_test (ev_op (ix W1 rfl rfl) (ev_varV rfl) inferInstance op_I0)) (fun hb F2 H2 g2 W2 => ?_) fun hb F2 H2 g2 W2 => ?_)
      · have hge := of_decide_eq_true hb
        refine w_seq (w_set W2 (ev_op (ix W2 rfl rfl) (ev_varV rfl) inferInstance (op_I (show n ≠ 0 by omega))) fun v3 F3 H3 g3 W3 e3 => ?_)
        obtain rfl : v3 = .int (r.fmod n) := e3
        refine w_seq (w_putO W3 (j := 0) (P := isV (.int (r.fdiv n))) rfl rfl (ev_op (ix W3 rfl rfl) (ev_varV rfl) inferInstance (op_I (show CDivN r n from ⟨by omega, by omega⟩))) (n := 2) rfl fun v4 F4 H4 s4 W4 e4 => ?_)
        obtain rfl : v4 = .int (r.fdiv n) := e4
        refine w_ret W4 (ev_varV (v := .int (r.fmod n)) rfl) fun v5 F5 H5 g5 W5 e5 => ?_
        obtain rfl : v5 = .int (r.fmod n) := e5
        have e1 : r.fmod n = r % n := Int.fmod_eq_emod_of_nonneg r (by omega)
        have e2 : r.fdiv n = r / n := Int.fdiv_eq_ediv_of_nonneg r (by omega)
        exact fin W5 hi (by rw [e2]; exact Int.ediv_nonneg hr0 (by omega)) hs0 hs1 (by rw [e1]; exact Int.emod_nonneg r (by omega)) (by rw [e1]; exact Int.emod_lt_of_pos r (by omega))
      · refine w_seq (w_set W2 (P := isEx (fun x : Int => isV (.int x)) fun _ => True) (EvP.imp (ev_op (ev_op (ev_op (ev_op (ev_op (ix W2 rfl rfl) (ix W2 rfl rfl) inferInstance (op_I (show CMul s s from .inl ⟨by omega, by omega⟩))) ev_c inferInstance (op_modP (by decide))) ev_c inferInstance (op_I (show CMul (s * s % 2147483629) 16807 from .inr ⟨by decide, by decide⟩)))
          (ev_op (ix W2 rfl rfl) ev_c inferInstance (op_I (show CMul s 31 from .inr ⟨by decide, by decide⟩))) inferInstance op_I0) ev_c inferInstance op_I0) fun F v h => ⟨_, trivial, h⟩) fun v3 F3 H3 g3 W3 ⟨mx, _, e3⟩ => ?_)
        obtain rfl : v3 = .int mx := e3
        have m0 : (0 : Int) ≤ mx % 2147483647 := Int.emod_nonneg mx (by decide)
        have m1 : mx % 2147483647 < 2147483647 := Int.emod_lt_of_pos mx (by decide)
        refine w_seq (w_putO W3 (j := 0) (P := isV (.int (mx % 2147483647))) rfl rfl (ev_op (ev_varV (v := .int mx) rfl) ev_c inferInstance (op_modP (i := mx) (j := 2147483647) (by decide))) (n := 3) rfl fun v4 F4 H4 s4 W4 e4 => ?_)
        obtain rfl : v4 = .int (mx % 2147483647) := e4
        generalize mx % 2147483647 = s4 at m0 m1 W4
        refine w_ret W4 (ev_op (ev_op (ev_op (ix W4 rfl rfl) ev_c inferInstance (op_I (show CDiv s4 61 from ⟨by decide, by decide⟩))) (ev_op (ev_op (ix W4 rfl rfl) ev_c inferInstance (op_modP (by decide))) ev_c inferInstance (op_I (show CMul (s4 % 4093) 29 from .inr ⟨by decide, by decide⟩))) inferInstance op_I0) (ev_varV (v := .int n) rfl) inferInstance (op_fmodP (j := n) (by omega))) fun v5 F5 H5 g5 W5 e5 => ?_
        obtain rfl : v5 = .int ((s4 / 61 + s4 % 4093 * 29).fmod n) := e5
        have e1 : (s4 / 61 + s4 % 4093 * 29).fmod n = (s4 / 61 + s4 % 4093 * 29) % n := Int.fmod_eq_emod_of_nonneg _ (by omega)
        exact fin W5 hi hr0 m0 m1 (by rw [e1]; exact Int.emod_nonneg _ (by omega)) (by rw [e1]; exact Int.emod_lt_of_pos _ (by omega))
    have hns : ∀ {σ : L2.St} {F' H' : Hp} {i' r' s' : Int}, Same F F' → Wr F (del H D) [(D, .lst [v0, .int i', .int r', .int s'])] F' H' none → σ[0]? = some (some (.ref D)) → EvP (tOp (rIxL K) (tVar 0) (tC (.int 0))) σ F' H' (isIs ns) := fun {σ F' H' i' r' s'} sF W h0 => EvP.kn (ix W h0 rfl) inferInstance ((inferInstance : Mn (isIs ns)).mn sF hv0)
    refine w_if W0 (b := decide (r < n) && decide (i < (ns.length : Nat))) (et_and (et_test (ev_op (ix W0 rfl rfl) (ev_varV rfl) inferInstance op_I0)) fun _ => et_test (ev_op (ix W0 rfl rfl) ((ev_cb (ea_cons (hns (Same.refl _) W0 rfl) inferInstance ea_nil) ca_lenL).is (by rw [List.length_map])) inferInstance op_I0)) (fun hb F1 H1 g1 W1 => ?_) fun hb F1 H1 g1 W1 => ?_
    · have hlt : i < (ns.length : Int) := by
        have := (Bool.and_eq_true _ _).mp hb
        exact of_decide_eq_true this.2
      have hin : i.toNat < ns.length := by omega
      have ei : ((i.toNat : Nat) : Int) = i := by omega
      have hat : atI (ns.map fun n => isV (.int n)) i = some (isV (.int ns[i.toNat])) := by
        have := atI_nat (j := i.toNat) (xs := ns.map fun n => isV (.int n)) (v := isV (.int ns[i.toNat])) (by rw [List.getElem?_map, List.getElem?_eq_getElem hin]; rfl)
        rw [ei] at this
        exact this
      generalize ns[i.toNat] = c at hat
      refine w_seq (w_set W1 (ev_op (hns g1.fx W1 rfl) (ix W1 rfl rfl) inferInstance (op_ixL hat)) fun v2 F2 H2 g2 W2 e2 => ?_)
      obtain rfl : v2 = .int c := e2
      refine w_seq (w_putO W2 (j := 0) (P := isV (.int (i + 1))) rfl rfl (ev_op (ix W2 rfl rfl) ev_c inferInstance op_I0) (n := 1) rfl fun v3 F3 H3 s3 W3 e3 => ?_)
      obtain rfl : v3 = .int (i + 1) := e3
      refine w_seq (w_putO W3 (j := 0) (P := isV (.int 0)) rfl rfl ev_c (n := 2) rfl fun v4 F4 H4 s4 W4 e4 => ?_)
      obtain rfl : v4 = .int 0 := e4
      refine w_if W4 (b := decide (c ≥ (10 : Int) ^ (18 : Int).toNat)) (et_test (ev_op (ev_varV rfl) (ev_op ev_c ev_c inferInstance (op_I (show CPow 10 18 from ⟨by decide, by decide, by decide⟩))) inferInstance op_I0)) (fun hb F5 H5 g5 W5 => ?_) fun hb F5 H5 g5 W5 => ?_
      · have hc := of_decide_eq_true hb
        have h0 : (0 : Int) ≤ (10 : Int) ^ (18 : Int).toNat := by decide
        refine w_putO W5 (j := 0) (P := isV (.int c)) rfl rfl (ev_varV rfl) (n := 2) rfl fun v6 F6 H6 s6 W6 e6 => ?_
        obtain rfl : v6 = .int c := e6
        exact rest (v2 := some (.int c)) W6 (by omega) (by omega) hs0 hs1
      · refine w_putO W5 (j := 0) (P := isEx (fun x : Int => isV (.int x)) fun x => 0 ≤ x ∧ x < 2147483647) rfl rfl (EvP.imp (ev_op (ev_op (ev_op (ev_op (ix W5 rfl rfl) ev_c inferInstance (op_I (show CMul s 69621 from .inr ⟨by decide, by decide⟩))) (ev_op (ev_op (ev_varV rfl) ev_c inferInstance (op_modP (by decide))) ev_c inferInstance (op_I (show CMul (c % 1000000007) 40692 from .inr ⟨by decide, by decide⟩))) inferInstance op_I0) ev_c inferInstance op_I0) ev_c inferInstance (op_modP (by decide))) fun F v h => ⟨_, ⟨Int.emod_nonneg _ (by decide), Int.emod_lt_of_pos _ (by decide)⟩, h⟩) (n := 3) rfl fun v6 F6 H6 s6 W6 ⟨x, ⟨x0, x1⟩, e6⟩ => ?_
        obtain rfl : v6 = .int x := e6
        exact rest (v2 := some (.int c)) W6 (by omega) (by omega) x0 x1
    · have := rest (v2 := none) W1 hi hr0 hs0 hs1
      rw [← hE] at this ⊢
      exact this
end
end EL

set_option Elab.async false
set_option linter.all false
set_option maxRecDepth 100000
set_option maxHeartbeats 2000000
namespace EL
open PySem PySem.Spec PyProof.Rows L2
theorem sql_ext {K : PySem.W.Frag} {H H' : Hp} {a : Addr} {xs : List V} (h : SqL K H a xs) (e : Same H H') : SqL K H' a xs := by
  rcases h with h | h
  · rcases h with h | ⟨o, h⟩
    · exact .inl (.inl (e _ _ h))
    · exact .inl (.inr ⟨o, e _ _ h⟩)
  · exact .inr h
theorem w_retLs {F0 H0 F H : Hp} {L : List (Addr × HO)} {σ : L2.St} {tA : TA} {Ps : List Pr} {E : Ends} (W : Wr F0 H0 L F H none) (h : EvA tA σ F H Ps) (hl : Ps.length ≤ 1000) (c : ∀ p vs F1 H1, Gr F H F1 H1 → Wr F0 H0 L F1 H1 none → PrL F1 Ps vs → H1 p = none → E.rt (.ref p) (upd H1 p (.lst vs))) : tRet (tLst tA) E σ H :=
  h F H Gr.refl W.sub _ fun vs F1 H1 g1 ps => ⟨by rw [ps.length]; exact Nat.le_trans hl (by decide), fun p hp => c p vs F1 H1 g1 (W.gro g1) ps hp⟩
def spBag (K : PySem.W.Frag) : Sp := fun vs H Q _ => ∃ (F : Hp) (a : Addr) (ns : List Int), vs = [.ref a] ∧ Same F H ∧ SqL K H a (ns.map V.int) ∧ ∀ D F' H' o, Gr F H F' H' → H D = none → F' D = none → H' D = some o → BagC F' o → Q (.ref D) H'
theorem ev_cut63 {K : PySem.W.Frag} {F H : Hp} {σ : L2.St} {a : Addr} {ns : List Int} {i : Nat} (h0 : σ[i]? = some (some (.ref a))) (hS : SqL K H a (ns.map V.int)) : EvP (tSl (rSlL K) (tVar i) tNoPart (tPart (tC (.int 63)))) σ F H (isIs (ns.take 63)) := fun F1 H1 g s Q q => by
  refine ⟨_, h0, 63, rfl, a, ns.map V.int, rfl, ?_, fun p hp => ?_⟩
  · exact sql_ext hS g.ex
  · have e : cutV (ns.map V.int) none (some 63) = (ns.take 63).map V.int := by
      unfold cutV
      rw [HT.sIx_none]
      have : HT.sIx (ns.map V.int).length (ns.map V.int).length (some 63) = min 63 (ns.map V.int).length := HT.sIx_nat _ _ 63
      rw [this, List.drop_zero, Nat.sub_zero, List.map_take]
      by_cases z : 63 ≤ (ns.map V.int).length
      · rw [Nat.min_eq_left z]
      · rw [Nat.min_eq_right (by omega), List.take_of_length_le (Nat.le_refl _), List.take_of_length_le (by omega)]
    rw [e]
    exact q _ _ _ (Gr.newF hp (s.free hp)) ⟨p, _, rfl, upd_same, isIs_of⟩
theorem sc_law_bag : FnScope ["_law_script", "_law_salt", "_law_cell"] ["_law_script"] (defScope sLawBag) := ⟨rfl, rfl, rfl, by decide +kernel, rfl, by decide +kernel, by decide +kernel⟩
section
variable {P : Program} {w : World} {K : PySem.W.Frag} {mg : Str → Option Value} {base : Heap}
theorem ok_bag (E : Tops K mg) : Cal P w K mg base 1 "_law_bag" ["_law_script"] (spBag K) := by
  refine Cal.of E.f_LawBag E.g__law_bag sc_law_bag (fun _ _ _ _ _ _ us hl => match us, hl with | [_], _ => rfl) (fun vs H Q Ex h => ?_) (fun cdv A outer s H vs Q Ex hr h => ?_)
  · obtain ⟨F, a, ns, rfl, _⟩ := h
    rfl
  · obtain ⟨F, a, ns, rfl, s0, hS, k⟩ := h
    refine ⟨_, (pss_cons (ps_set (i := 1) sc_law_bag.nd rfl (.inl rfl) pe_int)
      (pss_cons (ps_for PassesOwn.never rfl (pi_listK (K := K) rfl (pe_slice (sl_listK (K := K) rfl) (pv 0) po_none (po_some pe_int))) (pg_name (i := 2) sc_law_bag.nd rfl (.inl rfl))
        (pss_one (ps_set (i := 1) sc_law_bag.nd rfl (.inl rfl) (pe_op op_mod (pe_op op_add (pe_op op_add (pe_op op_mul (pv 1) pe_int) (pe_op op_mod (pv 2) pe_int)) pe_int) pe_int))))
      (pss_one (ps_ret (pe_lst (pa_cons (pe_callTy (call_list_ofK (K := K) rfl) (by rfl) E.n_list bt_list (pa_cons (pe_slice (sl_listK (K := K) rfl) (pv 0) po_none (po_some pe_int)) pa_nil)) (pa_cons pe_int (pa_cons pe_int (pa_cons (pv 1) pa_nil))))))))), ?_⟩
    have W0 := Wr.start s0
    have ht : (ns.take 63).length ≤ 63 := by rw [List.length_take]; omega
    refine w_seq (w_set W0 ev_c fun v1 F1 H1 g1 W1 e1 => ?_)
    obtain rfl : v1 = .int 9490 := e1
    have hS1 := sql_ext hS g1.ex
    dsimp only
    refine w_seq (w_forI (xs := ns.take 63) (Y := fun _ n => isV (.int n)) W1 (ei_list (f := fun n => isV (.int n)) (ev_cut63 rfl hS1) fun _ => inferInstance) fun F2 H2 g2 W2 => ?_)
    refine ⟨fun i σ' F' H' => ∃ (s : Int) (v2 : Option V), σ' = [some (.ref a), some (.int s), v2] ∧ Wr F H [] F' H' none ∧ 0 ≤ s ∧ s < 2147483647, ⟨9490, _, rfl, W2, by decide, by decide⟩, ?_, ?_⟩
    · rintro i c vc σ' F' F3 H' H3 hi sF ⟨s, v2, rfl, W3, hs0, hs1⟩ g3 hvc
      obtain rfl : vc = .int c := hvc
      have W4 := W3.gro g3
      refine w_set W4 (P := isEx (fun x : Int => isV (.int x)) fun x => 0 ≤ x ∧ x < 2147483647) (EvP.imp (ev_op (ev_op (ev_op (ev_op (ev_varV rfl) ev_c inferInstance (op_I (show CMul s 48271 from .inr ⟨by decide, by decide⟩))) (ev_op (ev_varV rfl) ev_c inferInstance (op_modP (by decide))) inferInstance op_I0) ev_c inferInstance op_I0) ev_c inferInstance (op_modP (by decide))) fun F v h => ⟨_, ⟨Int.emod_nonneg _ (by decide), Int.emod_lt_of_pos _ (by decide)⟩, h⟩) fun v5 F5 H5 g5 W5 ⟨x, ⟨x0, x1⟩, e5⟩ => ?_
      obtain rfl : v5 = .int x := e5
      exact ⟨F5, (sF.trans g3.fx).trans g5.fx, W5.sub, x, _, rfl, W5, x0, x1⟩
    · rintro σ' F' H' sF ⟨s, v2, rfl, W3, hs0, hs1⟩
      have hS3 := sql_ext hS W3.gr.ex
      dsimp only
      -- the new list, not frozen
      refine w_retLs W3 (Ps := [isIs (ns.take 63), isV (.int 0), isV (.int 0), isV (.int s)]) (ea_cons (ev_cb (ea_cons (ev_cut63 rfl hS3) inferInstance ea_nil) (ca_listL inferInstance)) inferInstance (ea_cons ev_c inferInstance (ea_cons ev_c inferInstance (ea_cons (ev_varV rfl) inferInstance ea_nil)))) (by simp) fun D vs F4 H4 g4 W4 ps hD => ?_
      cases ps with
      | cons h0 ps =>
        cases ps with
        | cons h1 ps =>
          cases ps with
          | cons h2 ps =>
            cases ps with
            | cons h3 ps =>
              cases ps
              obtain rfl : _ = V.int 0 := h1
              obtain rfl : _ = V.int 0 := h2
              obtain rfl : _ = V.int s := h3
              have fD := W4.sub.free hD
              exact k D F4 _ _ (W4.gr.trans (Gr.new hD)) (W4.gr.ex.free hD) fD upd_same ⟨_, ns.take 63, 0, 0, s, rfl, h0, by omega, by decide, by decide, hs0, hs1⟩
end
end EL

set_option Elab.async false
set_option linter.all false
set_option maxRecDepth 100000
set_option maxHeartbeats 2000000
namespace EL
open PySem PySem.Spec PyProof.Rows L2
section
variable {D : Addr} {F H F' H' : Hp} {o : HO}
theorem bagStart (b : BW D F H) : ∃ o, Wr F (del H D) [(D, o)] F H none ∧ BagC F o := by
  obtain ⟨o, ho, hb⟩ := b.o
  exact ⟨o, Wr.startO b.sm b.f ho hb.nt, hb⟩
theorem bagEnd (W : Wr F (del H D) [(D, o)] F' H' none) (hb : BagC F' o) : GB D F H F' H' ∧ BW D F' H' := ⟨W.gr, W.bw (j := 0) rfl hb⟩
end
/-- a call of _law_pull -/
theorem eb_pull {D : Addr} {σ : L2.St} {F : Hp} {tb tn : TE} {n : Int} (hb : EvB D tb σ F (isV (.ref D))) (hn : EvB D tn σ F (isV (.int n))) (n1 : 1 ≤ n) (n2 : n ≤ 1000) : EvB D (tCall spPull [] E0 (tCons tb (tCons tn tNil))) σ F (isEx (fun d : Int => isV (.int d)) fun d => 0 ≤ d ∧ d < n) := by
  refine eb_callB (eab_cons hb inferInstance (eab_cons hn inferInstance eab_nil)) fun F1 H1 vs Q s b hvs r => ?_
  have e : vs = [.ref D, .int n] := PrL.isVs (ws := [.ref D, .int n]) hvs
  exact ⟨F1, D, n, e, b, n1, n2, r⟩
def pAny (Ps : List Pr) : Pr := fun F v => ∃ P ∈ Ps, P F v
def spOf : Sp := fun vs H Q _ => ∃ (F : Hp) (D : Addr) (v : V) (Ps : List Pr), vs = [.ref D, v] ∧ BW D F H ∧ isLst Ps F v ∧ MnL Ps ∧ 1 ≤ Ps.length ∧ Ps.length ≤ 1000 ∧ RetB D F H (pAny Ps) Q
theorem sc_law_of : FnScope ["_law_bag_here", "_law_items"] ["_law_bag_here", "_law_items"] (defScope sLawOf) := ⟨rfl, rfl, rfl, by decide +kernel, rfl, by decide +kernel, by decide +kernel⟩
section
variable {P : Program} {w : World} {K : PySem.W.Frag} {mg : Str → Option Value} {base : Heap}
theorem ok_of (E : Tops K mg) : Cal P w K mg base 2 "_law_of" ["_law_bag_here", "_law_items"] spOf := by
  have c_law_pull : Cal P w K mg base 1 "_law_pull" ["_law_bag_here", "_law_count"] spPull := ok_pull E
  refine Cal.of (k := 1) E.f_LawOf E.g__law_of sc_law_of (fun _ _ _ _ _ _ us hl => match us, hl with | [_, _], _ => rfl) (fun vs H Q Ex h => ?_) (fun cdv A outer s H vs Q Ex hr h => ?_)
  · obtain ⟨F, D, v, Ps, rfl, _⟩ := h
    rfl
  · obtain ⟨F, D, v, Ps, rfl, bw, hl, mP, l1, l2, k⟩ := h
    refine ⟨_, (pss_one (ps_ret (pe_ix (ix_listK (K := K) rfl) (pv 1) (pe_cal c_law_pull (hr.mono (by omega)) rfl (pa_cons (pv 0) (pa_cons (pe_callB (call_len_seqK (K := K) rfl) (by rfl) E.n_len bt_len (pa_cons (pv 1) pa_nil)) pa_nil))) (fun _ _ => rfl)))), ?_⟩
    obtain ⟨o, W0, hb⟩ := bagStart bw
    refine w_retB W0 (j := 0) rfl hb (P := pAny Ps) (eb_op (Pa := isLst Ps) (Pb := isEx (fun d : Int => isV (.int d)) fun d => 0 ≤ d ∧ d < (Ps.length : Nat)) (eb_var rfl inferInstance hl) (eb_callB (eab_cons (eb_varV rfl) inferInstance (eab_cons (P := isV (.int (Ps.length : Nat))) (eb_cb (eab_cons (P := isLst Ps) (eb_var rfl inferInstance hl) inferInstance eab_nil) fun _ _ _ _ => ca_lenL) inferInstance eab_nil)) fun F1 H1 vs Q1 s1 b1 hvs r1 => ?_) inferInstance fun F1 H1 s1 sm1 => ?_) fun v3 F3 H3 o3 s3 W3 hb3 hv3 => k v3 F3 H3 (bagEnd W3 hb3).1 (bagEnd W3 hb3).2 hv3
    · have e : vs = [.ref D, .int (Ps.length : Nat)] := PrL.isVs (ws := [.ref D, .int (Ps.length : Nat)]) hvs
      exact ⟨F1, D, (Ps.length : Nat), e, b1, by omega, by omega, r1⟩
    · intro F2 H2 x y g2 s2 hx ⟨d, ⟨d0, d1⟩, hy⟩ Q2 q2
      have hlt : d.toNat < Ps.length := by omega
      have ed : ((d.toNat : Nat) : Int) = d := by omega
      have hat : atI Ps d = some Ps[d.toNat] := by
        have := atI_nat (j := d.toNat) (xs := Ps) (v := Ps[d.toNat]) (List.getElem?_eq_getElem hlt)
        rw [ed] at this
        exact this
      exact op_ixL (K := K) (F := F2) (H := H2) hat F2 H2 x y Gr.refl s2 hx hy Q2 fun v F4 H4 g4 p => q2 v F4 H4 g4 ⟨_, List.getElem_mem hlt, p⟩
end
/-- a call of _law_of -/
theorem eb_ofC {D : Addr} {σ : L2.St} {F : Hp} {tb tn : TE} {Ps : List Pr} {R : Pr} (hb : EvB D tb σ F (isV (.ref D))) (hn : EvB D tn σ F (isLst Ps)) (m : MnL Ps) (l1 : 1 ≤ Ps.length) (l2 : Ps.length ≤ 1000) (hR : ∀ P ∈ Ps, ∀ F v, P F v → R F v) : EvB D (tCall spOf [] E0 (tCons tb (tCons tn tNil))) σ F R := by
  refine eb_callB (eab_cons hb inferInstance (eab_cons hn inferInstance eab_nil)) fun F1 H1 vs Q s b hvs r => ?_
  cases hvs with
  | cons h1 hvs =>
    cases hvs with
    | cons h2 hvs =>
      cases hvs
      obtain rfl : _ = V.ref D := h1
      exact ⟨F1, D, _, Ps, rfl, b, h2, m, l1, l2, fun v F' H' g b' ⟨P, hP, p⟩ => r v F' H' g b' (hR P hP F' v p)⟩
def alps : List Str := ["ab", "a", "abc", "bx", "ab", "mnz"]
def spLets : Sp := fun vs H Q _ => ∃ (F : Hp) (D : Addr), vs = [.ref D] ∧ BW D F H ∧ RetB D F H (isEx (fun x : Str => isV (.str x)) Alph) Q
theorem sc_law_letters : FnScope ["_law_bag_here"] ["_law_bag_here"] (defScope sLawLetters) := ⟨rfl, rfl, rfl, by decide +kernel, rfl, by decide +kernel, by decide +kernel⟩
section
variable {P : Program} {w : World} {K : PySem.W.Frag} {mg : Str → Option Value} {base : Heap}
theorem ok_letters (E : Tops K mg) : Cal P w K mg base 3 "_law_letters" ["_law_bag_here"] spLets := by
  have c_law_of : Cal P w K mg base 2 "_law_of" ["_law_bag_here", "_law_items"] spOf := ok_of E
  refine Cal.of (k := 2) E.f_LawLetters E.g__law_letters sc_law_letters (fun _ _ _ _ _ _ us hl => match us, hl with | [_], _ => rfl) (fun vs H Q Ex h => ?_) (fun cdv A outer s H vs Q Ex hr h => ?_)
  · obtain ⟨F, D, rfl, _⟩ := h
    rfl
  · obtain ⟨F, D, rfl, bw, k⟩ := h
    refine ⟨_, (pss_one (ps_ret (pe_cal c_law_of (hr.mono (by omega)) rfl (pa_cons (pv 0) (pa_cons (pe_lst (pa_cons pe_str (pa_cons pe_str (pa_cons pe_str (pa_cons pe_str (pa_cons pe_str (pa_cons pe_str pa_nil))))))) pa_nil))))), ?_⟩
    obtain ⟨o, W0, hb⟩ := bagStart bw
    refine w_retB W0 (j := 0) rfl hb (P := isEx (fun x : Str => isV (.str x)) Alph) (eb_ofC (Ps := alps.map fun x => isV (.str x)) (eb_varV rfl) (eb_lst (Ps := alps.map fun x => isV (.str x)) (eab_cons eb_c inferInstance (eab_cons eb_c inferInstance (eab_cons eb_c inferInstance (eab_cons eb_c inferInstance (eab_cons eb_c inferInstance (eab_cons eb_c inferInstance eab_nil)))))) inferInstance (by decide)) inferInstance (by decide) (by decide) fun P hP F v p => ?_) fun v3 F3 H3 o3 s3 W3 hb3 hv3 => k v3 F3 H3 (bagEnd W3 hb3).1 (bagEnd W3 hb3).2 hv3
    obtain ⟨x, hx, rfl⟩ := List.mem_map.mp hP
    refine ⟨x, ?_, p⟩
    simp only [alps, List.mem_cons, List.not_mem_nil, or_false] at hx
    unfold Alph
    rcases hx with rfl | rfl | rfl | rfl | rfl | rfl
    · exact .inl rfl
    · exact .inr (.inl rfl)
    · exact .inr (.inr (.inl rfl))
    · exact .inr (.inr (.inr (.inl rfl)))
    · exact .inl rfl
    · exact .inr (.inr (.inr (.inr rfl)))
end
def pRaw (m : Mach) : Pr := isTup [isV (.str m.al), isLst (m.tab.map pRow), isV (.int m.st)]
instance {m : Mach} : Mn (pRaw m) := by unfold pRaw; infer_instance
def spMade (K : PySem.W.Frag) : Sp := fun vs H Q _ => ∃ (F : Hp) (m : Mach) (v : V), vs = [v] ∧ Same F H ∧ pRaw m F v ∧ MOk m ∧ Ret F H (pM K m) Q
theorem sc_law_made : FnScope ["_law_raw_here"] ["_law_raw_here"] (defScope sLawMade) := ⟨rfl, rfl, rfl, by decide +kernel, rfl, by decide +kernel, by decide +kernel⟩
section
variable {P : Program} {w : World} {K : PySem.W.Frag} {mg : Str → Option Value} {base : Heap}
theorem ok_made (E : Tops K mg) : Cal P w K mg base 5 "_law_made" ["_law_raw_here"] (spMade K) := by
  have c_init : CaI P w K mg base 3 (spInit K) := ok_minit E
  refine Cal.of (k := 4) E.f_LawMade E.g__law_made sc_law_made (fun _ _ _ _ _ _ us hl => match us, hl with | [_], _ => rfl) (fun vs H Q Ex h => ?_) (fun cdv A outer s H vs Q Ex hr h => ?_)
  · obtain ⟨F, m, v, rfl, _⟩ := h
    rfl
  · obtain ⟨F, m, v, rfl, s0, hv, ok, k⟩ := h
    refine ⟨_, (pss_one (ps_ret (pe_machK (K := K) rfl c_init (hr.mono (by omega)) rfl (pa_cons (pe_ix (ix_tupK (K := K) rfl) (pv 0) pe_int (fun _ _ => rfl)) (pa_cons (pe_callTy (call_list_ofK (K := K) rfl) (by rfl) E.n_list bt_list (pa_cons (pe_ix (ix_tupK (K := K) rfl) (pv 0) pe_int (fun _ _ => rfl)) pa_nil)) pa_nil)) (pk_cons (pe_ix (ix_tupK (K := K) rfl) (pv 0) pe_int (fun _ _ => rfl)) pk_nil)))), ?_⟩
    have W0 := Wr.start s0
    have hv : isTup [isV (.str m.al), isLst (m.tab.map pRow), isV (.int m.st)] F v := hv
    have ev : ∀ {j : Int} {P : Pr}, atI [isV (.str m.al), isLst (m.tab.map pRow), isV (.int m.st)] j = some P → EvP (tOp (rIxT K) (tVar 0) (tC (.int j))) [some v] F H P := fun {j P} h => ev_op (ev_var (P := isTup [isV (.str m.al), isLst (m.tab.map pRow), isV (.int m.st)]) rfl inferInstance hv) ev_c inferInstance (op_ixT h)
    refine w_ret W0 (ev_mach (m := m) W0.same (ea_cons (P := isV (.str m.al)) (ev rfl) inferInstance (ea_cons (P := isLst (m.tab.map pRow)) (ev_cb (ea_cons (P := isLst (m.tab.map pRow)) (ev rfl) inferInstance ea_nil) (ca_listL inferInstance)) inferInstance ea_nil)) (ea_cons (P := isV (.int m.st)) (ev rfl) inferInstance ea_nil) ok) fun v10 F10 H10 g10 W10 h10 => k v10 F10 H10 W10.gr h10
end
end EL

set_option Elab.async false
set_option linter.all false
set_option maxRecDepth 100000
set_option maxHeartbeats 2000000
namespace EL
open PySem PySem.Spec PyProof.Rows L2
/-- a sign of the text -/
def In1 (al : Str) (c : Nat) : Prop := c ∈ al.cps.toList
theorem eb_sign {K : PySem.W.Frag} {D : Addr} {σ : L2.St} {F : Hp} {i j : Nat} {al : Str} (hb : σ[i]? = some (some (.ref D))) (hs : σ[j]? = some (some (.str al))) (h : Alph al) : EvB D (tCall spOf [] E0 (tCons (tVar i) (tCons (tCB rListS (tCons (tVar j) tNil)) tNil))) σ F (isEx (fun c : Nat => isV (.str (sg c))) (In1 al)) := by
  have sz := alph_size h
  have l : ((al.cps.toList.map fun c => V.str (sg c)).map isV).length = al.cps.size := by rw [List.length_map, List.length_map, Array.length_toList]
  refine eb_ofC (eb_varV hb) (eb_cb (eab_cons (eb_varV hs) inferInstance eab_nil) fun _ _ _ _ => ca_listS (show al.cps.size ≤ 100000 by omega)) inferInstance (by omega) (by omega) fun P hP F v p => ?_
  obtain ⟨z, hz, rfl⟩ := List.mem_map.mp hP
  obtain ⟨c, hc, rfl⟩ := List.mem_map.mp hz
  exact ⟨c, hc, p⟩
theorem eb_join {K : PySem.W.Frag} {D : Addr} {σ : L2.St} {F : Hp} {te : TE} {C : List Nat → Prop} (he : EvB D te σ F (isEx (fun cs : List Nat => isLst (cs.map fun c => isV (.str (sg c)))) C)) (hC : ∀ cs, C cs → cs.length ≤ 1000) :
    EvB D (tM1 (fun x xs H Q => ∃ a p, ∃ ys : List Str, x = .str a ∧ xs = [.ref p] ∧ (SqL K H p (ys.map V.str) ∨ SqT K H p (ys.map V.str)) ∧ (ys.map (·.length)).sum + ys.length * a.length ≤ 16777216 ∧ Q (.str (Txt.join a ys)) H) (tC (.str "")) te) σ F (isEx (fun cs : List Nat => isV (.str ⟨cs.toArray⟩)) C) := fun F1 H1 s b Q q => by
  refine ⟨⟨_, rfl⟩, he F1 H1 s b _ fun y F2 H2 g2 b2 ⟨cs, hc, hy⟩ => ?_⟩
  have hz := hC cs hc
  have ej := ev_joinSg (K := K) (σ := σ) (F := F2) (H := H2) (to := tC (.str "")) (te := tC y) (cs := cs) ev_c (ev_lit inferInstance hy) (by omega)
  exact (ej F2 H2 Gr.refl (Sub.of b2.sm) Q fun v F3 H3 g3 e => q v F3 H3 (GB.trans b2.f g2 (GB.of_gr g3)) (b2.gro g3) ⟨cs, hc, e⟩).2
structure WordOk (al : Str) (n : Nat) (cs : List Nat) : Prop where
  mem : ∀ c ∈ cs, In1 al c
  len : cs.length ≤ n
def spWord : Sp := fun vs H Q _ => ∃ (F : Hp) (D : Addr) (al : Str) (n : Nat), vs = [.ref D, .str al, .int (n : Nat)] ∧ BW D F H ∧ Alph al ∧ n ≤ 100 ∧ RetB D F H (isEx (fun cs : List Nat => isV (.str ⟨cs.toArray⟩)) (WordOk al n)) Q
theorem sc_law_word : FnScope ["_law_bag_here", "_law_letters_here", "_law_most", "_law_k"] ["_law_bag_here", "_law_letters_here", "_law_most"] (defScope sLawWord) := ⟨rfl, rfl, rfl, by decide +kernel, rfl, by decide +kernel, by decide +kernel⟩
section
variable {P : Program} {w : World} {K : PySem.W.Frag} {mg : Str → Option Value} {base : Heap}
theorem ok_word (E : Tops K mg) : Cal P w K mg base 3 "_law_word" ["_law_bag_here", "_law_letters_here", "_law_most"] spWord := by
  have c_law_of : Cal P w K mg base 2 "_law_of" ["_law_bag_here", "_law_items"] spOf := ok_of E
  have c_law_pull : Cal P w K mg base 1 "_law_pull" ["_law_bag_here", "_law_count"] spPull := ok_pull E
  refine Cal.of (k := 2) E.f_LawWord E.g__law_word sc_law_word (fun _ _ _ _ _ _ us hl => match us, hl with | [_, _, _], _ => rfl) (fun vs H Q Ex h => ?_) (fun cdv A outer s H vs Q Ex hr h => ?_)
  · obtain ⟨F, D, al, n, rfl, _⟩ := h
    rfl
  · obtain ⟨F, D, al, n, rfl, bw, ha, hn, k⟩ := h
    refine ⟨_, (pss_one (ps_ret (pe_join pe_str (by exact pe_lc (own := [("_law_k", 3)]) rfl sc_law_word.nd (pi_range1 (by rfl) E.n_range (pa_cons (pe_cal c_law_pull (hr.mono (by omega)) rfl (pa_cons (pv 0) (pa_cons (pe_op op_add (pv 2) pe_int) pa_nil))) pa_nil)) (blkOk_by (N := ["_law_bag_here", "_law_letters_here", "_law_most", "_law_k"]) (sc := defScope sLawWord) (by decide +kernel)) (fun _ _ _ _ _ => (pg_name (i := 3) sc_law_word.nd rfl (.inl rfl))) (fun _ _ _ _ _ => pts_nil) (fun _ _ _ _ _ => (pe_cal c_law_of (hr.mono (by omega)) rfl (pa_cons (pv 0) (pa_cons (pe_callTy (call_listS rfl) (by rfl) E.n_list bt_list (pa_cons (pv 1) pa_nil)) pa_nil)))))))), ?_⟩
    obtain ⟨o, W0, hb⟩ := bagStart bw
    refine w_retB W0 (j := 0) rfl hb (P := isEx (fun cs : List Nat => isV (.str ⟨cs.toArray⟩)) (WordOk al n)) (eb_join (K := K) (EvB.imp (eb_lc (Y := fun _ (i : Nat) => isV (.int (i : Nat))) (f := fun c : Nat => isV (.str (sg c))) (C := In1 al) (eib_rng (C := fun d => 0 ≤ d ∧ d < (n : Int) + 1) (eab_cons (eb_pull (n := (n : Int) + 1) (eb_varV rfl) (eb_op (eb_varV rfl) eb_c inferInstance fun _ _ _ _ => op_I0) (by omega) (by omega)) inferInstance eab_nil) fun d hd => ⟨hd.1, by omega⟩) (fun xs ⟨d, hd, e⟩ => by rw [e, List.length_range]; omega) (fun _ => inferInstance) fun i x v F1 H1 s1 b1 hv Q1 hQ1 => ?_) fun F v ⟨cs, ⟨⟨xs, ⟨d, hd, e⟩, hl⟩, hc⟩, hv⟩ => ⟨cs, ⟨hc, by rw [hl, e, List.length_range]; omega⟩, hv⟩) fun cs h => by have := h.len; omega) fun v3 F3 H3 o3 s3 W3 hb3 hv3 => k v3 F3 H3 (bagEnd W3 hb3).1 (bagEnd W3 hb3).2 hv3
    exact hQ1 _ rfl (eb_sign (K := K) rfl rfl ha)
end
theorem eb_word {D : Addr} {σ : L2.St} {F : Hp} {i j l : Nat} {al : Str} {n : Nat} (hb : σ[i]? = some (some (.ref D))) (hs : σ[j]? = some (some (.str al))) (hl : σ[l]? = some (some (.int (n : Nat)))) (ha : Alph al) (hn : n ≤ 100) : EvB D (tCall spWord [] E0 (tCons (tVar i) (tCons (tVar j) (tCons (tVar l) tNil)))) σ F (isEx (fun cs : List Nat => isV (.str ⟨cs.toArray⟩)) (WordOk al n)) := by
  refine eb_callB (eab_cons (eb_varV hb) inferInstance (eab_cons (eb_varV hs) inferInstance (eab_cons (eb_varV hl) inferInstance eab_nil))) fun F1 H1 vs Q s b hvs r => ?_
  have e : vs = [.ref D, .str al, .int (n : Nat)] := PrL.isVs (ws := [.ref D, .str al, .int (n : Nat)]) hvs
  exact ⟨F1, D, al, n, e, b, ha, hn, r⟩
/-- rows: two texts over the letters, the second not empty -/
structure RowOk (al : Str) (p : Str × Str) : Prop where
  u : ∀ c ∈ p.1.cps.toList, c ∈ al.cps.toList
  w : ∀ c ∈ p.2.cps.toList, c ∈ al.cps.toList
  n : p.2.cps.size ≠ 0
  lu : p.1.length ≤ 1000
  lw : p.2.length ≤ 1000
def spRow : Sp := fun vs H Q _ => ∃ (F : Hp) (D : Addr) (al : Str) (n : Nat), vs = [.ref D, .str al, .int (n : Nat)] ∧ BW D F H ∧ Alph al ∧ n ≤ 100 ∧ RetB D F H (isEx (fun p : Str × Str => pSS p.1 p.2) (RowOk al)) Q
theorem sc_law_row : FnScope ["_law_bag_here", "_law_letters_here", "_law_most"] ["_law_bag_here", "_law_letters_here", "_law_most"] (defScope sLawRow) := ⟨rfl, rfl, rfl, by decide +kernel, rfl, by decide +kernel, by decide +kernel⟩
section
variable {P : Program} {w : World} {K : PySem.W.Frag} {mg : Str → Option Value} {base : Heap}
theorem ok_row (E : Tops K mg) : Cal P w K mg base 4 "_law_row" ["_law_bag_here", "_law_letters_here", "_law_most"] spRow := by
  have c_law_of : Cal P w K mg base 2 "_law_of" ["_law_bag_here", "_law_items"] spOf := ok_of E
  have c_law_word : Cal P w K mg base 3 "_law_word" ["_law_bag_here", "_law_letters_here", "_law_most"] spWord := ok_word E
  refine Cal.of (k := 3) E.f_LawRow E.g__law_row sc_law_row (fun _ _ _ _ _ _ us hl => match us, hl with | [_, _, _], _ => rfl) (fun vs H Q Ex h => ?_) (fun cdv A outer s H vs Q Ex hr h => ?_)
  · obtain ⟨F, D, al, n, rfl, _⟩ := h
    rfl
  · obtain ⟨F, D, al, n, rfl, bw, ha, hn, k⟩ := h
    refine ⟨_, (pss_one (ps_ret (pe_tup (pa_cons (pe_cal c_law_word (hr.mono (by omega)) rfl (pa_cons (pv 0) (pa_cons (pv 1) (pa_cons (pv 2) pa_nil)))) (pa_cons (pe_op op_add_str (pe_cal c_law_of (hr.mono (by omega)) rfl (pa_cons (pv 0) (pa_cons (pe_callTy (call_listS rfl) (by rfl) E.n_list bt_list (pa_cons (pv 1) pa_nil)) pa_nil))) (pe_cal c_law_word (hr.mono (by omega)) rfl (pa_cons (pv 0) (pa_cons (pv 1) (pa_cons (pv 2) pa_nil))))) pa_nil))))), ?_⟩
    obtain ⟨o, W0, hb⟩ := bagStart bw
    refine w_retB W0 (j := 0) rfl hb (P := isEx (fun p : Str × Str => pSS p.1 p.2) (RowOk al)) (EvB.imp (eb_tup (Ps := [isEx (fun cs : List Nat => isV (.str ⟨cs.toArray⟩)) (WordOk al n), isEx (fun x : Str => isV (.str x)) fun x => ∃ c cs, In1 al c ∧ WordOk al n cs ∧ x = sg c ++ ⟨cs.toArray⟩]) (eab_cons (eb_word rfl rfl rfl ha hn) inferInstance (eab_cons (eb_op (eb_sign (K := K) rfl rfl ha) (eb_word rfl rfl rfl ha hn) inferInstance fun F1 H1 s1 sm1 => ?_) inferInstance eab_nil)) inferInstance) fun F v ⟨a, vs, e, hF, ps⟩ => ?_) fun v3 F3 H3 o3 s3 W3 hb3 hv3 => k v3 F3 H3 (bagEnd W3 hb3).1 (bagEnd W3 hb3).2 hv3
    · intro F2 H2 x y g2 s2 ⟨c, hc, hx⟩ ⟨cs, hcs, hy⟩ Q2 q2
      obtain rfl : x = .str (sg c) := hx
      obtain rfl : y = .str ⟨cs.toArray⟩ := hy
      have l1 : (sg c).length = 1 := rfl
      have l2 : (⟨cs.toArray⟩ : Str).length = cs.length := by show cs.toArray.size = _; rw [List.size_toArray]
      have := hcs.len
      exact ⟨_, _, rfl, rfl, Nat.le_trans (show (sg c).length + (⟨cs.toArray⟩ : Str).length ≤ 1000 by omega) (by decide), q2 _ F2 H2 Gr.refl ⟨_, ⟨c, cs, hc, hcs, rfl⟩, rfl⟩⟩
    · cases ps with
      | cons h1 ps =>
        cases ps with
        | cons h2 ps =>
          cases ps
          obtain ⟨us, hus, e1⟩ := h1
          obtain ⟨x, ⟨c, cs, hc, hcs, rfl⟩, e2⟩ := h2
          have lc : (sg c ++ (⟨cs.toArray⟩ : Str)).cps.toList = c :: cs := by
            show (#[c] ++ cs.toArray).toList = _
            simp
          have ls : (sg c ++ (⟨cs.toArray⟩ : Str)).cps.size = cs.length + 1 := by rw [← Array.length_toList, lc, List.length_cons]
          have l1 := hus.len
          have l2 := hcs.len
          refine ⟨(⟨us.toArray⟩, sg c ++ ⟨cs.toArray⟩), ⟨hus.mem, fun d hd => ?_, by rw [ls]; omega, ?_, ?_⟩, a, _, e, hF, .cons e1 (.cons e2 .nil)⟩
          · rw [lc] at hd
            rcases List.mem_cons.mp hd with z | z
            · rw [z]; exact hc
            · exact hcs.mem d z
          · show us.toArray.size ≤ 1000
            rw [List.size_toArray]; omega
          · show (sg c ++ (⟨cs.toArray⟩ : Str)).cps.size ≤ 1000
            rw [ls]; omega
end
end EL

set_option Elab.async false
set_option linter.all false
set_option maxRecDepth 100000
set_option maxHeartbeats 2000000
namespace EL
open PySem PySem.Spec PyProof.Rows L2
structure RawOk (al : Str) (t : Int) (m : Mach) : Prop where
  ok : MOk m
  al : m.al = al
  low : Low m t
def spRaw : Sp := fun vs H Q _ => ∃ (F : Hp) (D : Addr) (al : Str) (n t : Int), vs = [.ref D, .str al, .int n, .int t] ∧ BW D F H ∧ Alph al ∧ 1 ≤ n ∧ n ≤ 3 ∧ 0 ≤ t ∧ t ≤ 3 ∧ RetB D F H (isEx pRaw (RawOk al t)) Q
/-- rows drawn -/
structure RwOk (wd : Nat) (c t : Int) (r : List Pt) : Prop where
  l : r.length = wd
  p : ∀ p ∈ r, 0 ≤ p.1 ∧ p.1 < c ∧ 0 ≤ p.2 ∧ p.2 ≤ t
theorem sc_law_raw : FnScope ["_law_bag_here", "_law_letters_here", "_law_most", "_law_top", "_law_count", "_law_states", "_law_k", "_law_letter"] ["_law_bag_here", "_law_letters_here", "_law_most", "_law_top"] (defScope sLawRaw) := ⟨rfl, rfl, rfl, by decide +kernel, rfl, by decide +kernel, by decide +kernel⟩
section
variable {P : Program} {w : World} {K : PySem.W.Frag} {mg : Str → Option Value} {base : Heap}
theorem ok_raw (E : Tops K mg) : Cal P w K mg base 2 "_law_raw" ["_law_bag_here", "_law_letters_here", "_law_most", "_law_top"] spRaw := by
  have c_law_pull : Cal P w K mg base 1 "_law_pull" ["_law_bag_here", "_law_count"] spPull := ok_pull E
  refine Cal.of (k := 1) E.f_LawRaw E.g__law_raw sc_law_raw (fun _ _ _ _ _ _ us hl => match us, hl with | [_, _, _, _], _ => rfl) (fun vs H Q Ex h => ?_) (fun cdv A outer s H vs Q Ex hr h => ?_)
  · obtain ⟨F, D, al, n, t, rfl, _⟩ := h
    rfl
  · obtain ⟨F, D, al, n, t, rfl, bw, ha, n1, n3, t0, t3, k⟩ := h
    refine ⟨_, (pss_cons (ps_asg (pe_tup (pa_cons (pe_op op_add pe_int (pe_cal c_law_pull (hr.mono (by omega)) rfl (pa_cons (pv 0) (pa_cons (pv 2) pa_nil)))) (pa_cons (pe_lst pa_nil) pa_nil))) (pg_tupK (K := K) (n := 2) rfl rfl (pgs_cons (pg_name (i := 4) sc_law_raw.nd rfl (.inr rfl)) (pgs_cons (pg_name (i := 5) sc_law_raw.nd rfl (.inl rfl)) pgs_nil))))
      (pss_cons (ps_for PassesOwn.never rfl (pi_range1 (by rfl) E.n_range (pa_cons (pv 4) pa_nil)) (pg_name (i := 6) sc_law_raw.nd rfl (.inl rfl))
        (pss_one (ps_expr (pe_bmK (K := K) rfl PySem.F.plainAttrs_list PySem.F.slot_list_append PySem.F.type_list_append mt_append (pv 5) (pa_cons (pe_callTy (call_tupD (K := K) rfl) (by rfl) E.n_tuple bt_tuple (pa_cons (by exact pe_lc (own := [("_law_letter", 7)]) rfl sc_law_raw.nd (pi_str (pv 1)) (blkOk_by (N := ["_law_bag_here", "_law_letters_here", "_law_most", "_law_top", "_law_count", "_law_states", "_law_k", "_law_letter"]) (sc := defScope sLawRaw) (by decide +kernel)) (fun _ _ _ _ _ => (pg_name (i := 7) sc_law_raw.nd rfl (.inl rfl))) (fun _ _ _ _ _ => pts_nil) (fun _ _ _ _ _ => (pe_tup (pa_cons (pe_cal c_law_pull (hr.mono (by omega)) rfl (pa_cons (pv 0) (pa_cons (pv 4) pa_nil))) (pa_cons (pe_cal c_law_pull (hr.mono (by omega)) rfl (pa_cons (pv 0) (pa_cons (pe_op op_add (pv 3) pe_int) pa_nil))) pa_nil))))) pa_nil)) pa_nil)))))
      (pss_one (ps_ret (pe_tup (pa_cons (pv 1) (pa_cons (pv 5) (pa_cons (pe_cal c_law_pull (hr.mono (by omega)) rfl (pa_cons (pv 0) (pa_cons (pv 4) pa_nil))) pa_nil)))))))), ?_⟩
    obtain ⟨o, W0, hb⟩ := bagStart bw
    have sz := alph_size ha
    refine w_seq (w_tupNew W0 (j := 0) (P := isEx (fun c : Nat => isV (.int (c : Nat))) fun c => 1 ≤ c ∧ c ≤ 3) rfl hb (eb_op eb_c (eb_pull (n := n) (eb_varV rfl) (eb_varV rfl) n1 (by omega)) inferInstance fun F1 H1 s1 sm1 => ?_) inferInstance fun S v4 F1 H1 o1 s1 W1 hb1 ⟨c, ⟨c1, c3⟩, e4⟩ => ?_)
    · intro F2 H2 x y g2 s2 hx ⟨d, ⟨d0, d1⟩, hy⟩ Q2 q2
      obtain rfl : x = .int 1 := hx
      obtain rfl : y = .int d := hy
      refine ⟨1, d, rfl, rfl, q2 _ F2 H2 Gr.refl ⟨(1 + d).toNat, by omega, ?_⟩⟩
      show V.int _ = V.int _
      congr 1
      omega
    obtain rfl : v4 = .int (c : Nat) := e4
    dsimp only
    refine w_seq (w_forI (xs := List.range c) (Y := fun _ i => isV (.int (i : Nat))) W1 (ei_rng1 (ea_cons (ev_varV rfl) inferInstance ea_nil) (by omega)) fun F2 H2 g2 W2 => ?_)
    refine ⟨fun i σ' F' H' => ∃ (vs : List V) (o : HO) (rows : List (List Pt)) (v6 : Option V), σ' = [some (.ref D), some (.str al), some (.int n), some (.int t), some (.int (c : Nat)), some (.ref S), v6, none] ∧ Wr F (del H D) [(S, .lst vs), (D, o)] F' H' none ∧ BagC F' o ∧ rows.length = i ∧ (∀ r ∈ rows, RwOk al.cps.size c t r) ∧ PrL F' (rows.map pRow) vs,
      ⟨[], o1, [], _, rfl, W2, hb1.mn g2.fx, rfl, fun r hr => (by cases hr), .nil⟩, ?_, ?_⟩
    · rintro i x vx σ' F' F3 H' H3 hi sF ⟨vs, o, rows, v6, rfl, W3, hb3, hrl, hro, hp⟩ g3 hvx
      obtain rfl : vx = .int (x : Nat) := hvx
      have W4 := W3.gro g3
      have hi2 : i < c := by
        have := (List.getElem?_eq_some_iff.mp hi).1
        rw [List.length_range] at this; exact this
      have hvl := hp.length
      rw [List.length_map, hrl] at hvl
      refine w_appB W4 (i := 0) (j := 1) (P := isEx pRow (RwOk al.cps.size c t)) rfl rfl (by decide) (hb3.mn g3.fx) rfl ?_ (by omega) fun v5 F5 H5 o5 s5 W5 hb5 ⟨r, hr, hv5⟩ => ?_
      · -- the row
        refine eb_cb (Ps := [isEx (fun ys : List Pt => isLst (ys.map fun p => Nd.nd p)) fun ys => (∃ xs, xs = al.cps.toList ∧ ys.length = xs.length) ∧ ∀ p ∈ ys, 0 ≤ p.1 ∧ p.1 < (c : Int) ∧ 0 ≤ p.2 ∧ p.2 ≤ t]) (eab_cons (eb_lc (Y := fun _ d => isV (.str (sg d))) (eib_of (xs := al.cps.toList) fun F6 H6 s6 sm6 => ei_str (ev_varV rfl)) (fun xs e => by rw [e, Array.length_toList]; omega) (fun _ => inferInstance) fun j d v F6 H6 s6 b6 hd Q6 hQ6 => ?_) inferInstance eab_nil) fun F6 H6 s6 sm6 => ?_
        · refine hQ6 _ rfl (EvB.imp (eb_tup (Ps := [isEx (fun d : Int => isV (.int d)) fun d => 0 ≤ d ∧ d < (c : Int), isEx (fun d : Int => isV (.int d)) fun d => 0 ≤ d ∧ d < t + 1]) (eab_cons (eb_pull (n := (c : Int)) (eb_varV rfl) (eb_varV rfl) (by omega) (by omega)) inferInstance (eab_cons (eb_pull (n := t + 1) (eb_varV rfl) (eb_op (eb_varV rfl) eb_c inferInstance fun _ _ _ _ => op_I0) (by omega) (by omega)) inferInstance eab_nil)) inferInstance) fun F v ⟨a, ws, e, hF, ps⟩ => ?_)
          cases ps with
          | cons h1 ps =>
            cases ps with
            | cons h2 ps =>
              cases ps
              obtain ⟨x1, hx1, e1⟩ := h1
              obtain ⟨x2, hx2, e2⟩ := h2
              exact ⟨(x1, x2), ⟨hx1.1, hx1.2, hx2.1, by have := hx2.2; show x2 ≤ t; omega⟩, a, _, e, hF, .cons e1 (.cons e2 .nil)⟩
        · intro F7 H7 ws g7 s7 hws Q7 q7
          cases hws with
          | cons h1 hws =>
            cases hws
            obtain ⟨ys, ⟨⟨xs, hxs, hyl⟩, hyc⟩, hy⟩ := h1
            exact ca_tupDL (K := K) (Ps := ys.map fun p => Nd.nd p) inferInstance F7 H7 _ Gr.refl s7 (.cons hy .nil) Q7 fun v8 F8 H8 g8 h8 => q7 v8 F8 H8 g8 ⟨ys, ⟨by rw [hyl, hxs, Array.length_toList], hyc⟩, h8⟩
      · refine ⟨F5, (sF.trans g3.fx).trans s5, W5.sub, vs ++ [v5], o5, rows ++ [r], _, rfl, W5, hb5, by rw [List.length_append, hrl]; rfl, fun r' hr' => ?_, ?_⟩
        · rcases List.mem_append.mp hr' with z | z
          · exact hro r' z
          · rw [List.mem_singleton.mp z]; exact hr
        · rw [List.map_append]
          exact ((mnl_map (fun _ => inferInstance) _ : MnL (rows.map pRow)).mn (g3.fx.trans s5) hp).append (.one hv5)
    · rintro σ' F' H' sF ⟨vs, o, rows, v6, rfl, W3, hb3, hrl, hro, hp⟩
      rw [List.length_range] at hrl
      obtain ⟨W4, s4⟩ := W3.frz (j := 0) rfl (fun od u z => by cases z)
      have W4 : Wr F (del H D) [(D, o)] (upd F' S (.lst vs)) H' none := W4
      have hS : isLst (rows.map pRow) (upd F' S (.lst vs)) (.ref S) := ⟨S, vs, rfl, upd_same, (mnl_map (fun _ => inferInstance) _ : MnL (rows.map pRow)).mn s4 hp⟩
      dsimp only
      refine w_retB W4 (j := 0) rfl (hb3.mn s4) (P := isEx pRaw (RawOk al t)) (EvB.imp (eb_tup (Ps := [isV (.str al), isLst (rows.map pRow), isEx (fun d : Int => isV (.int d)) fun d => 0 ≤ d ∧ d < (c : Int)]) (eab_cons (eb_varV rfl) inferInstance (eab_cons (eb_var rfl inferInstance hS) inferInstance (eab_cons (eb_pull (n := (c : Int)) (eb_varV rfl) (eb_varV rfl) (by omega) (by omega)) inferInstance eab_nil))) inferInstance) fun F v ⟨a, ws, e, hF, ps⟩ => ?_) fun v5 F5 H5 o5 s5 W5 hb5 hv5 => k v5 F5 H5 (bagEnd W5 hb5).1 (bagEnd W5 hb5).2 hv5
      cases ps with
      | cons h1 ps =>
        cases ps with
        | cons h2 ps =>
          cases ps with
          | cons h3 ps =>
            cases ps
            obtain ⟨d, ⟨d0, d1⟩, e3⟩ := h3
            refine ⟨{ al := al, tab := rows, st := d }, ⟨⟨ha, by show 1 ≤ rows.length; omega, by show rows.length ≤ 3; omega, fun r hr => ?_, fun r hr p hp => ?_, d0, by show d < (rows.length : Int); omega⟩, rfl, fun r hr p hp => ((hro r hr).p p hp).2.2.2⟩, a, _, e, hF, .cons h1 (.cons h2 (.cons e3 .nil))⟩
            · rw [(hro r hr).l]
              show al.cps.size = al.cps.toList.length
              rw [Array.length_toList]
            · have := (hro r hr).p p hp
              refine ⟨this.1, ?_, this.2.2.1, by omega⟩
              show p.1 < (rows.length : Int)
              omega
end
end EL

set_option Elab.async false
set_option linter.all false
set_option maxRecDepth 100000
set_option maxHeartbeats 2000000
/-! rules for the law -/
namespace EL
open PySem PySem.Spec PyProof.Rows L2
noncomputable def eqb (m m' : Mach) : Bool := @decide (EqM m m') (Classical.propDecidable _)
theorem eqb_iff {m m' : Mach} : eqb m m' = true ↔ EqM m m' := by unfold eqb; exact @decide_eq_true_iff _ (Classical.propDecidable _)
theorem eqb_refl (m : Mach) : eqb m m = true := eqb_iff.mpr (EqM.refl m)
theorem eqb_symm {m m' : Mach} (al : m'.al = m.al) : eqb m m' = eqb m' m := by
  cases h : eqb m m' with
  | true => exact (eqb_iff.mpr ((eqb_iff.mp h).symm al)).symm
  | false =>
    cases h' : eqb m' m with
    | false => rfl
    | true => rw [eqb_iff.mpr ((eqb_iff.mp h').symm al.symm)] at h; cases h
def accB (m : Mach) (p : Str × Str) : Bool := decide (acc m p.1.cps.toList p.2.cps.toList % 2 = 0)
/-! expressions at one state -/
def EvX (D : Addr) (te : TE) (σ : L2.St) (F H : Hp) (P : Pr) : Prop := ∀ Q : VK, (∀ v F2 H2, GB D F H F2 H2 → BW D F2 H2 → P F2 v → Q v H2) → te σ H Q
def EvAX (D : Addr) (ta : TA) (σ : L2.St) (F H : Hp) (Ps : List Pr) : Prop := ∀ Q : List V → Hp → Prop, (∀ vs F2 H2, GB D F H F2 H2 → BW D F2 H2 → PrL F2 Ps vs → Q vs H2) → ta σ H Q
section
variable {D : Addr} {K : PySem.W.Frag} {σ : L2.St} {F H : Hp} {ta te : TE} {tA tr : TA} {P R : Pr} {Ps : List Pr} {sp : Sp} {v : V}
theorem ex_of (h : EvP te σ F H P) (b : BW D F H) : EvX D te σ F H P := fun Q q => h F H Gr.refl (Sub.of b.sm) Q fun v F2 H2 g p => q v F2 H2 (GB.of_gr g) (b.gro g) p
theorem eax_cons (h : EvX D ta σ F H P) (m : Mn P) (hr : EvAB D tr σ F Ps) : EvAX D (tCons ta tr) σ F H (P :: Ps) := fun Q q =>
  h _ fun v F2 H2 g2 b2 p => hr F2 H2 g2.fx b2 _ fun vs F3 H3 g3 b3 ps => q _ F3 H3 (GB.trans b2.f g2 g3) b3 (.cons (m.mn g3.fx p) ps)
theorem eax_var {i : Nat} (h : σ[i]? = some (some v)) (hr : EvAX D tr σ F H Ps) : EvAX D (tCons (tVar i) tr) σ F H (isV v :: Ps) := fun Q q => ⟨v, h, hr _ fun vs F2 H2 g2 b2 ps => q _ F2 H2 g2 b2 (.cons rfl ps)⟩
theorem ex_lst (h : EvAX D tA σ F H Ps) (m : MnL Ps) (hl : Ps.length ≤ 1000) : EvX D (tLst tA) σ F H (isLst Ps) := fun Q q =>
  h _ fun vs F2 H2 g2 b2 ps => ⟨by rw [ps.length]; exact Nat.le_trans hl (by decide), fun p np => by
    have f := b2.sm.free np
    have gn : Gr F2 H2 (upd F2 p (.lst vs)) (upd H2 p (.lst vs)) := Gr.newF np f
    exact q _ _ _ (GB.trans b2.f g2 (GB.of_gr gn)) (b2.gro gn) ⟨p, vs, rfl, upd_same, m.mn gn.fx ps⟩⟩
theorem ex_ofC {i : Nat} {tn : TE} (hb : σ[i]? = some (some (.ref D))) (hn : EvX D tn σ F H (isLst Ps)) (m : MnL Ps) (l1 : 1 ≤ Ps.length) (l2 : Ps.length ≤ 1000) (hR : ∀ P ∈ Ps, ∀ F v, P F v → R F v) : EvX D (tCall spOf [] E0 (tCons (tVar i) (tCons tn tNil))) σ F H R := fun Q q => by
  refine ⟨_, hb, hn _ fun y F2 H2 g2 b2 hy => ?_⟩
  exact ⟨F2, D, y, Ps, rfl, b2, hy, m, l1, l2, fun v F3 H3 g3 b3 ⟨P, hP, p⟩ => q v F3 H3 (GB.trans b2.f g2 g3) b3 (hR P hP F3 v p)⟩
end
section
variable {K : PySem.W.Frag} {F0 H0 F H : Hp} {L : List (Addr × HO)} {σ : L2.St} {P : Pr} {te ta tb : TE} {tA : TA} {E : Ends} {D : Addr} {o : HO} {j : Nat} {al : Str} {m m' : Mach}
/-- xs.append(e), e drawn, at this state -/
theorem w_appX (W : Wr F0 H0 L F H none) {i : Nat} {l : Addr} {xs : List V} (hi : L[i]? = some (l, .lst xs)) (hj : L[j]? = some (D, o)) (ij : i ≠ j) {sv : Nat} (hv : σ[sv]? = some (some (.ref l))) (h : EvX D te σ F H P) (hz : xs.length < 100000)
    (c : ∀ v F1 H1 o', Same F F1 → Wr F0 H0 ((L.set j (D, o')).set i (l, .lst (xs ++ [v]))) F1 H1 none → BagC F1 o' → P F1 v → E.nx σ H1) : tDrop (tBM K "list" rAppend (tVar sv) (tCons te tNil)) E σ H :=
  ⟨_, hv, Or.inl ⟨rfl, _, SqL.of (W.at hi)⟩, h _ fun v F2 H2 g b p => by
    obtain ⟨o', W', hb'⟩ := W.gb hj g b
    have hi' : (L.set j (D, o'))[i]? = some (l, .lst xs) := by rw [List.getElem?_set_ne (Ne.symm ij)]; exact hi
    exact ⟨l, xs, v, rfl, rfl, W'.at hi', Nat.lt_of_lt_of_le hz (by decide), c v F2 _ o' g.fx (W'.set hi' rfl) hb' p⟩⟩
/-- _law_bag(script) -/
theorem w_bag (W : Wr F0 H0 L F H none) {i k : Nat} {a : Addr} {ns : List Int} (hv : σ[k]? = some (some (.ref a))) (hS : SqL K H a (ns.map V.int))
    (c : ∀ D F1 H1 o, Same F F1 → Wr F0 H0 ((D, o) :: L) F1 H1 none → BagC F1 o → E.nx (σ.set i (some (.ref D))) H1) : tAsg (tCall (spBag K) [] E0 (tCons (tVar k) tNil)) (gName i) E σ H :=
  ⟨_, hv, F, a, ns, rfl, W.same, hS, fun D F1 H1 o g h0 f h b => c D F1 H1 o g.fx (W.newG g h0 f h b.nt) b⟩
/-- difference(m, x) is None, x some machine of which the answer is known -/
theorem ev_dif {C : Mach → Prop} {b : Bool} (sm : Same F H) (ha : EvP ta σ F H (pM K m)) (hb : EvP tb σ F H (isEx (pM K) C)) (ok : MOk m) (hC : ∀ m', C m' → MOk m' ∧ m'.al = m.al ∧ eqb m m' = b) :
    EvP (tOp (fun x y H Q => y = .non ∧ Q (.bl (decide (x = .non))) H) (tCall (spDf K) [] E0 (tCons ta (tCons tb tNil))) (tC .non)) σ F H (isV (.bl b)) := by
  refine ev_op (Pa := isEx pDf fun z => z = !b) (ev_call sm (ea_cons ha inferInstance (ea_cons hb inferInstance ea_nil)) fun F1 H1 vs Q g s hvs r => ?_) ev_c inferInstance ?_
  · cases hvs with
    | cons h1 hvs =>
      cases hvs with
      | cons h2 hvs =>
        cases hvs
        obtain ⟨m', hm', h2⟩ := h2
        obtain ⟨ok', al, e⟩ := hC m' hm'
        refine ⟨F1, m, m', _, _, rfl, s, h1, h2, ok, ok', al, fun v F2 H2 g2 ⟨z, hz, hv⟩ => r v F2 H2 g2 ⟨z, ?_, hv⟩⟩
        have := df_iff ok ok' al hz
        rw [← e]
        cases z with
        | false => rw [eqb_iff.mpr (this.mp rfl)]; rfl
        | true =>
          cases q : eqb m m' with
          | false => rfl
          | true => cases this.mpr (eqb_iff.mp q)
  · exact fun F1 H1 x y g s ⟨z, hz, hx⟩ hy Q q => by
      refine ⟨hy, q _ F1 H1 Gr.refl ?_⟩
      subst hz
      cases b with
      | true =>
        obtain rfl : x = .non := hx
        rfl
      | false =>
        obtain ⟨a, rfl⟩ : ∃ a, x = .ref a := hx
        rfl
theorem ev_few (sm : Same F H) (ha : EvP ta σ F H (pM K m)) (ok : MOk m) : EvP (tCall (spFP K) [] E0 (tCons ta tNil)) σ F H (isEx (fun n : Int => isV (.int n)) (Few m)) :=
  ev_call sm (ea_cons ha inferInstance ea_nil) fun F1 H1 vs Q g s hvs r => by
    cases hvs with
    | cons h1 hvs =>
      cases hvs
      exact ⟨F1, m, _, rfl, s, h1, ok, r⟩
theorem ev_rel (sm : Same F H) (ha : EvP ta σ F H (pM K m)) (ok : MOk m) : EvP (tCall (spRel K) [] E0 (tCons ta tNil)) σ F H (isEx (pM K) (Rel m)) :=
  ev_call sm (ea_cons ha inferInstance ea_nil) fun F1 H1 vs Q g s hvs r => by
    cases hvs with
    | cons h1 hvs =>
      cases hvs
      exact ⟨F1, m, _, rfl, s, h1, ok, r⟩
theorem ev_min (sm : Same F H) (ha : EvP ta σ F H (pM K m)) (ok : MOk m) : EvP (tCall (spMin K) [] E0 (tCons ta tNil)) σ F H (isEx (pM K) (Mini m)) :=
  ev_call sm (ea_cons ha inferInstance ea_nil) fun F1 H1 vs Q g s hvs r => by
    cases hvs with
    | cons h1 hvs =>
      cases hvs
      exact ⟨F1, m, _, rfl, s, h1, ok, r⟩
/-- complement(relabel(m)) -/
theorem ev_cpl (sm : Same F H) (ha : EvP ta σ F H (pM K m)) (ok : RawOk al 2 m) : EvP (tCall (spCp K) [] E0 (tCons (tCall (spRel K) [] E0 (tCons ta tNil)) tNil)) σ F H (isEx (pM K) fun m' => MOk m' ∧ m'.al = m.al ∧ eqb m m' = false) :=
  ev_call sm (ea_cons (ev_rel sm ha ok.ok) inferInstance ea_nil) fun F1 H1 vs Q g s hvs r => by
    cases hvs with
    | cons h1 hvs =>
      cases hvs
      obtain ⟨m1, R, h1⟩ := h1
      refine ⟨F1, m1, _, rfl, s, h1, R.ok, R.low ok.low, fun v F2 H2 g2 ⟨a, ⟨ha, ok2⟩, hv⟩ => r v F2 H2 g2 ⟨shM m1 a, ⟨ok2, R.al, ?_⟩, hv⟩⟩
      cases q : eqb m (shM m1 a) with
      | false => rfl
      | true => exact absurd (eqb_iff.mp q) (compl_ne ok.ok R ha ok2)
theorem ev_accB {p : Str × Str} (sm : Same F H) (ha : EvP ta σ F H (pM K m)) (hr : EvP tb σ F H (pSS p.1 p.2)) (ok : RawOk al 2 m) (hp : RowOk al p) : EvP (tMeth (MC K) "accepts" (spAcc K) [] E0 ta (tCons tb tNil)) σ F H (isV (.bl (accB m p))) := by
  have els : m.ls = al.cps.toList := by unfold Mach.ls; rw [ok.al]
  refine ev_cam sm ha (ea_cons (P := pSS p.1 p.2) hr inferInstance ea_nil) fun F1 H1 x vs Q g s hx hvs r => ?_
  cases hvs with
  | cons h1 hvs =>
    cases hvs
    refine ⟨F1, m, x, _, p.1, p.2, rfl, s, hx, ok.ok, h1, by rw [els]; exact hp.u, by rw [els]; exact hp.w, hp.n, hp.lu, hp.lw, fun v F2 H2 g2 ⟨b, hb, hv⟩ => r v F2 H2 g2 ?_⟩
    have := accP_acc ok.ok (by rw [els]; exact hp.u) (by rw [els]; exact hp.w) hb
    obtain rfl : v = .bl b := hv
    show V.bl b = V.bl (accB m p)
    rw [this]; rfl
theorem eqv_bools {α : Type} {f g : α → Bool} : ∀ {xs : List α}, (∀ x ∈ xs, f x = g x) → PyData.eqvAll (xs.map fun x => .bool (f x)) (xs.map fun x => .bool (g x)) = true
  | [], _ => by simp [PyData.eqvAll]
  | x :: xs, h => by
    have ih := eqv_bools (xs := xs) fun y hy => h y (List.mem_cons_of_mem _ hy)
    simp [PyData.eqvAll, PyData.eqv, h x List.mem_cons_self, ih]
theorem bools_ok {α : Type} {f : α → Bool} : ∀ xs : List α, PyData.canLayAll0 (xs.map fun x => .bool (f x)) = true ∧ PyData.depthAll (xs.map fun x => .bool (f x)) ≤ 0
  | [] => by simp [PyData.canLayAll0, PyData.depthAll]
  | x :: xs => by
    have h := bools_ok (f := f) xs
    refine ⟨by simp [PyData.canLayAll0, PyData.canLay0, h.1], ?_⟩
    have h2 := h.2
    simp only [List.map_cons, PyData.depthAll, PyData.depth]
    omega
theorem bools_shaped {α : Type} {f : α → Bool} (xs : List α) : SeqAt.shaped (.list (xs.map fun x => .bool (f x))) = true := by
  have h := bools_ok (f := f) xs
  have h2 := h.2
  show (PyData.canLay0 (.list (xs.map fun x => .bool (f x))) && decide (PyData.depth (.list (xs.map fun x => .bool (f x))) ≤ 64)) = true
  rw [Bool.and_eq_true]
  refine ⟨by simp [PyData.canLay0, h.1], decide_eq_true ?_⟩
  simp only [PyData.depth]
  omega
theorem op_eqBools {α : Type} {f g : α → Bool} {xs : List α} : OpP (rEqD K) (isLst (xs.map fun x => isV (.bl (f x)))) (isLst (xs.map fun x => isV (.bl (g x)))) (isEx (fun b => isV (.bl b)) fun b => (∀ x ∈ xs, f x = g x) → b = true) F H := by
  have dl : ∀ {f : α → Bool} {F1 H1 : Hp} {x : V}, Sub F1 H1 → isLst (xs.map fun x => isV (.bl (f x))) F1 x → Dp K H1 x (.list (xs.map fun x => .bool (f x))) := by
    intro f F1 H1 x s h
    obtain ⟨a, vs, rfl, ha, hp⟩ := h
    refine .lst (SqL.of (s.lst ha)) (dp_all s (f := fun x => isV (.bl (f x))) (d := fun x => .bool (f x)) (fun y v h => ?_) hp)
    obtain rfl : v = .bl (f y) := h
    exact .bl _
  exact fun F1 H1 x y g s hx hy Q q => ⟨_, _, dl s hx, dl s hy, bools_shaped xs, bools_shaped xs, q _ F1 H1 Gr.refl ⟨_, fun h => by unfold PyData.eqv; exact eqv_bools h, rfl⟩⟩
end
end EL

set_option Elab.async false
set_option linter.all false
set_option maxRecDepth 100000
set_option maxHeartbeats 4000000
namespace EL
open PySem PySem.Spec PyProof.Rows L2
def spLaw (K : PySem.W.Frag) : Sp := fun vs H Q _ => ∃ (a : Addr) (ns : List Int), vs = [.ref a] ∧ SqL K H a (ns.map V.int) ∧ ∀ H', Q (.bl true) H'
theorem sc_law : FnScope ["_law_script", "_law_bag_here", "_law_turn", "_law_letters_here", "_law_first", "_law_machines", "_law_table", "_law_rows", "_law_a", "_law_b", "_law_alike", "_law_one", "_law_other", "_law_look", "_law_row_here"] ["_law_script"] (defScope sLaw) := ⟨rfl, rfl, rfl, by decide +kernel, rfl, by decide +kernel, by decide +kernel⟩
section
variable {P : Program} {w : World} {K : PySem.W.Frag} {mg : Str → Option Value} {base : Heap}
theorem ok_law (E : Tops K mg) {fd : FuncData} (Fd : FunD K "law" "law" (defArgs sLaw) (defBody sLaw) (defScope sLaw) [] [] (He.ga K "law") fd) : FnOk P w K mg base CX0 15 (He.ga K "law") fd ["_law_script"] (spLaw K) := by
  have c_law_bag : Cal P w K mg base 1 "_law_bag" ["_law_script"] (spBag K) := ok_bag E
  have c_law_letters : Cal P w K mg base 3 "_law_letters" ["_law_bag_here"] spLets := ok_letters E
  have c_law_raw : Cal P w K mg base 2 "_law_raw" ["_law_bag_here", "_law_letters_here", "_law_most", "_law_top"] spRaw := ok_raw E
  have c_law_made : Cal P w K mg base 5 "_law_made" ["_law_raw_here"] (spMade K) := ok_made E
  have c_law_of : Cal P w K mg base 2 "_law_of" ["_law_bag_here", "_law_items"] spOf := ok_of E
  have c_law_row : Cal P w K mg base 4 "_law_row" ["_law_bag_here", "_law_letters_here", "_law_most"] spRow := ok_row E
  have c_minimized : Cal P w K mg base 8 "minimized" ["machine"] (spMin K) := ok_minimized E
  have c_relabel : Cal P w K mg base 12 "relabel" ["machine"] (spRel K) := ok_relabel E
  have c_difference : Cal P w K mg base 5 "difference" ["one", "other"] (spDf K) := ok_difference E
  have c_complement : Cal P w K mg base 7 "complement" ["machine"] (spCp K) := ok_complement E
  have c_maccepts : Cam P w K mg base 2 "accepts" ["self", "row"] (spAcc K) := ok_maccepts E
  have c_fewest_priorities : Cal P w K mg base 11 "fewest_priorities" ["machine"] (spFP K) := ok_fewest_priorities E
  refine Fd.ok sc_law (fun vs H Q Ex h => ?_) fun cdv A outer s H vs Q Ex hr h => ?_
  · obtain ⟨a, ns, rfl, _⟩ := h
    rfl
  · suffices hs : ∃ t, PSs (cxOf CX0 P w K mg base ["_law_script", "_law_bag_here", "_law_turn", "_law_letters_here", "_law_first", "_law_machines", "_law_table", "_law_rows", "_law_a", "_law_b", "_law_alike", "_law_one", "_law_other", "_law_look", "_law_row_here"] "law" (defScope sLaw) (He.ga K "law") cdv A outer s H Ex).nox (defBody sLaw) t ∧ t { nx := fun _ H' => Q .non H', rt := Q } (start ["_law_script", "_law_bag_here", "_law_turn", "_law_letters_here", "_law_first", "_law_machines", "_law_table", "_law_rows", "_law_a", "_law_b", "_law_alike", "_law_one", "_law_other", "_law_look", "_law_row_here"] vs) H by
      obtain ⟨t, h1, h2⟩ := hs
      exact ⟨t, h1.nox, h2⟩
    obtain ⟨a, ns, rfl, hS, k⟩ := h
    refine ⟨_, (pss_cons (ps_set (i := 1) sc_law.nd rfl (.inr rfl) (pe_cal c_law_bag (hr.mono (by omega)) rfl (pa_cons (pv 0) pa_nil)))
      (pss_cons (ps_for PassesOwn.never rfl (pi_range1 (by rfl) E.n_range (pa_cons pe_int pa_nil)) (pg_name (i := 2) sc_law.nd rfl (.inl rfl))
        (pss_cons (ps_set (i := 3) sc_law.nd rfl (.inr rfl) (pe_cal c_law_letters (hr.mono (by omega)) rfl (pa_cons (pv 1) pa_nil)))
        (pss_cons (ps_set (i := 4) sc_law.nd rfl (.inl rfl) (pe_cal c_law_made (hr.mono (by omega)) rfl (pa_cons (pe_cal c_law_raw (hr.mono (by omega)) rfl (pa_cons (pv 1) (pa_cons (pv 3) (pa_cons pe_int (pa_cons pe_int pa_nil))))) pa_nil)))
        (pss_cons (ps_set (i := 5) sc_law.nd rfl (.inr rfl) (pe_lst (pa_cons (pv 4) (pa_cons (pe_cal c_law_of (hr.mono (by omega)) rfl (pa_cons (pv 1) (pa_cons (pe_lst (pa_cons (pe_cal c_minimized (hr.mono (by omega)) rfl (pa_cons (pv 4) pa_nil)) (pa_cons (pe_cal c_relabel (hr.mono (by omega)) rfl (pa_cons (pv 4) pa_nil)) (pa_cons (pe_cal c_law_made (hr.mono (by omega)) rfl (pa_cons (pe_cal c_law_raw (hr.mono (by omega)) rfl (pa_cons (pv 1) (pa_cons (pv 3) (pa_cons pe_int (pa_cons pe_int pa_nil))))) pa_nil)) pa_nil)))) pa_nil))) pa_nil))))
        (pss_cons (ps_expr (pe_bmK (K := K) rfl PySem.F.plainAttrs_list PySem.F.slot_list_append PySem.F.type_list_append mt_append (pv 5) (pa_cons (pe_cal c_law_of (hr.mono (by omega)) rfl (pa_cons (pv 1) (pa_cons (pe_lst (pa_cons (pe_cal c_relabel (hr.mono (by omega)) rfl (pa_cons (pe_ix (ix_listK (K := K) rfl) (pv 5) pe_int (fun _ _ => rfl)) pa_nil)) (pa_cons (pe_cal c_law_made (hr.mono (by omega)) rfl (pa_cons (pe_cal c_law_raw (hr.mono (by omega)) rfl (pa_cons (pv 1) (pa_cons (pv 3) (pa_cons pe_int (pa_cons pe_int pa_nil))))) pa_nil)) pa_nil))) pa_nil))) pa_nil)))
        (pss_cons (ps_setLc (i := 6) (own := [("_law_one", 11)]) rfl sc_law.nd rfl rfl (sw_true rfl rfl rfl (by decide +kernel)) (pi_listK (K := K) rfl (pv 5)) (blkOk_by (N := ["_law_script", "_law_bag_here", "_law_turn", "_law_letters_here", "_law_first", "_law_machines", "_law_table", "_law_rows", "_law_a", "_law_b", "_law_alike", "_law_one", "_law_other", "_law_look", "_law_row_here"]) (sc := defScope sLaw) (by decide +kernel)) (fun _ _ _ _ _ => (pg_name (i := 11) sc_law.nd rfl (.inr rfl))) (fun _ _ _ _ _ => pts_nil) (fun _ _ _ _ _ => (by exact pe_lc (own := [("_law_other", 12)]) rfl sc_law.nd (pi_listK (K := K) rfl (pv 5)) (blkOk_by (N := ["_law_script", "_law_bag_here", "_law_turn", "_law_letters_here", "_law_first", "_law_machines", "_law_table", "_law_rows", "_law_a", "_law_b", "_law_alike", "_law_one", "_law_other", "_law_look", "_law_row_here"]) (sc := ({ kind := .function, names := [(".0", .local), ("_law_one", .cell), ("_law_machines", .cell)], isGenerator := false, isCoroutine := false })) (by decide +kernel)) (fun _ _ _ _ _ => (pg_name (i := 12) sc_law.nd rfl (.inl rfl))) (fun _ _ _ _ _ => pts_nil) (fun _ _ _ _ _ => (pe_cmpR op_isN (pe_cal c_difference (hr.mono (by omega)) rfl (pa_cons (pv 11) (pa_cons (pv 12) pa_nil))) pe_non (nomark _))))))
        (pss_cons (ps_setLc (i := 7) (own := [("_law_look", 13)]) rfl sc_law.nd rfl rfl (sw_true rfl rfl rfl (by decide +kernel)) (pi_range1 (by rfl) E.n_range (pa_cons pe_int pa_nil)) (blkOk_by (N := ["_law_script", "_law_bag_here", "_law_turn", "_law_letters_here", "_law_first", "_law_machines", "_law_table", "_law_rows", "_law_a", "_law_b", "_law_alike", "_law_one", "_law_other", "_law_look", "_law_row_here"]) (sc := defScope sLaw) (by decide +kernel)) (fun _ _ _ _ _ => (pg_name (i := 13) sc_law.nd rfl (.inl rfl))) (fun _ _ _ _ _ => pts_nil) (fun _ _ _ _ _ => (pe_cal c_law_row (hr.mono (by omega)) rfl (pa_cons (pv 1) (pa_cons (pv 3) (pa_cons pe_int pa_nil))))))
        (pss_one (ps_for PassesOwn.never rfl (pi_range1 (by rfl) E.n_range (pa_cons pe_int pa_nil)) (pg_name (i := 8) sc_law.nd rfl (.inr rfl))
          (pss_cons (ps_if (PW.pt (pw_or (pt_not (pt_val (pe_ix (ix_listK (K := K) rfl) (pe_ix (ix_listK (K := K) rfl) (pv 6) (pv 8) (fun _ _ => rfl)) (pv 8) (fun _ _ => rfl)))) (pw_or1 (pt_cmpR op_isN (pe_cal c_difference (hr.mono (by omega)) rfl (pa_cons (pe_ix (ix_listK (K := K) rfl) (pv 5) (pv 8) (fun _ _ => rfl)) (pa_cons (pe_cal c_complement (hr.mono (by omega)) rfl (pa_cons (pe_cal c_relabel (hr.mono (by omega)) rfl (pa_cons (pe_ix (ix_listK (K := K) rfl) (pv 5) (pv 8) (fun _ _ => rfl)) pa_nil)) pa_nil)) pa_nil))) pe_non (nomark _)))))
            (pss_one (ps_ret pe_bl))
            pss_nil)
          (pss_one (ps_for PassesOwn.never rfl (pi_range1 (by rfl) E.n_range (pa_cons pe_int pa_nil)) (pg_name (i := 9) sc_law.nd rfl (.inr rfl))
            (pss_cons (ps_if (PW.pt (pw_or (pt_cmpR op_ne (pe_ix (ix_listK (K := K) rfl) (pe_ix (ix_listK (K := K) rfl) (pv 6) (pv 8) (fun _ _ => rfl)) (pv 9) (fun _ _ => rfl)) (pe_ix (ix_listK (K := K) rfl) (pe_ix (ix_listK (K := K) rfl) (pv 6) (pv 9) (fun _ _ => rfl)) (pv 8) (fun _ _ => rfl)) (nomark _)) (pw_or1 (PW.pt (pw_and (pt_val (pe_ix (ix_listK (K := K) rfl) (pe_ix (ix_listK (K := K) rfl) (pv 6) (pv 8) (fun _ _ => rfl)) (pv 9) (fun _ _ => rfl))) (pw_and (pt_val (pe_ix (ix_listK (K := K) rfl) (pe_ix (ix_listK (K := K) rfl) (pv 6) (pv 9) (fun _ _ => rfl)) pe_int (fun _ _ => rfl))) (pw_and1 (pt_not (pt_val (pe_ix (ix_listK (K := K) rfl) (pe_ix (ix_listK (K := K) rfl) (pv 6) (pv 8) (fun _ _ => rfl)) pe_int (fun _ _ => rfl)))))))))))
              (pss_one (ps_ret pe_bl))
              pss_nil)
            (pss_cons (ps_set (i := 10) sc_law.nd rfl (.inl rfl) (pe_cmpR (op_eqDK (K := K) rfl hr.units) (by exact pe_lc (own := [("_law_row_here", 14)]) rfl sc_law.nd (pi_listK (K := K) rfl (pv 7)) (blkOk_by (N := ["_law_script", "_law_bag_here", "_law_turn", "_law_letters_here", "_law_first", "_law_machines", "_law_table", "_law_rows", "_law_a", "_law_b", "_law_alike", "_law_one", "_law_other", "_law_look", "_law_row_here"]) (sc := defScope sLaw) (by decide +kernel)) (fun _ _ _ _ _ => (pg_name (i := 14) sc_law.nd rfl (.inl rfl))) (fun _ _ _ _ _ => pts_nil) (fun _ _ _ _ _ => (pe_camK (K := K) rfl c_maccepts (hr.mono (by omega)) (pe_ix (ix_listK (K := K) rfl) (pv 5) (pv 8) (fun _ _ => rfl)) (pa_cons (pv 14) pa_nil)))) (by exact pe_lc (own := [("_law_row_here", 14)]) rfl sc_law.nd (pi_listK (K := K) rfl (pv 7)) (blkOk_by (N := ["_law_script", "_law_bag_here", "_law_turn", "_law_letters_here", "_law_first", "_law_machines", "_law_table", "_law_rows", "_law_a", "_law_b", "_law_alike", "_law_one", "_law_other", "_law_look", "_law_row_here"]) (sc := defScope sLaw) (by decide +kernel)) (fun _ _ _ _ _ => (pg_name (i := 14) sc_law.nd rfl (.inl rfl))) (fun _ _ _ _ _ => pts_nil) (fun _ _ _ _ _ => (pe_camK (K := K) rfl c_maccepts (hr.mono (by omega)) (pe_ix (ix_listK (K := K) rfl) (pv 5) (pv 9) (fun _ _ => rfl)) (pa_cons (pv 14) pa_nil)))) (nomark _)))
            (pss_one (ps_if (PW.pt (pw_and (pt_val (pe_ix (ix_listK (K := K) rfl) (pe_ix (ix_listK (K := K) rfl) (pv 6) (pv 8) (fun _ _ => rfl)) (pv 9) (fun _ _ => rfl))) (pw_and1 (PW.pt (pw_or (pt_not (pt_val (pv 10))) (pw_or1 (pt_cmpR op_ne (pe_cal c_fewest_priorities (hr.mono (by omega)) rfl (pa_cons (pe_ix (ix_listK (K := K) rfl) (pv 5) (pv 8) (fun _ _ => rfl)) pa_nil)) (pe_cal c_fewest_priorities (hr.mono (by omega)) rfl (pa_cons (pe_ix (ix_listK (K := K) rfl) (pv 5) (pv 9) (fun _ _ => rfl)) pa_nil)) (nomark _))))))))
              (pss_one (ps_ret pe_bl))
              pss_nil))))))))))))))))
      (pss_one (ps_ret pe_bl)))), ?_⟩
    have W0 : Wr (fun _ => none) H [] (fun _ => none) H none := Wr.start fun a o e => by cases e
    refine w_seq (w_bag W0 rfl hS fun D F1 H1 o1 s1 W1 hb1 => ?_)
    dsimp only
    refine w_seq (w_forI (xs := List.range 4) (Y := fun _ i => isV (.int (i : Nat))) W1 (ei_rng1 (n := 4) (ea_cons ev_c inferInstance ea_nil) (by decide)) fun F2 H2 g2 W2 => ?_)
    refine ⟨fun i σ' F' H' => ∃ (o : HO) (x2 x3 x4 x5 x6 x7 x8 x9 x10 : Option V), σ' = [some (.ref a), some (.ref D), x2, x3, x4, x5, x6, x7, x8, x9, x10, none, none, none, none] ∧ Wr (fun _ => none) H [(D, o)] F' H' none ∧ BagC F' o,
      ⟨o1, _, _, _, _, _, _, _, _, _, rfl, W2, hb1.mn g2.fx⟩, ?_, ?_⟩
    · rintro it x vx σ' F' F3 H' H3 hi sF ⟨o, x2, x3, x4, x5, x6, x7, x8, x9, x10, rfl, W3, hb3⟩ g3 hvx
      have W4 := W3.gro g3
      have hb4 := hb3.mn g3.fx
      -- the letters
      refine w_seq (w_setB W4 (j := 0) (P := isEx (fun x : Str => isV (.str x)) Alph) rfl hb4 (eb_callB (eab_cons (eb_varV rfl) inferInstance eab_nil) fun F5 H5 vs Q5 s5 b5 hvs r5 => ?_) fun v5 F5 H5 o5 s5 W5 hb5 ⟨al, hal, e5⟩ => ?_)
      · have e : vs = [.ref D] := PrL.isVs (ws := [.ref D]) hvs
        exact ⟨F5, D, e, b5, r5⟩
      obtain rfl : v5 = .str al := e5
      -- a machine that is drawn
      have raw : ∀ {n t : Int} {σ : L2.St} {F : Hp}, σ[1]? = some (some (.ref D)) → σ[3]? = some (some (.str al)) → 1 ≤ n → n ≤ 3 → 0 ≤ t → t ≤ 2 → EvB D (tCall (spMade K) [] E0 (tCons (tCall spRaw [] E0 (tCons (tVar 1) (tCons (tVar 3) (tCons (tC (.int n)) (tCons (tC (.int t)) tNil))))) tNil)) σ F (isEx (pM K) (RawOk al 2)) := by
        intro n t σ F h1 h3 n1 n3 t0 t2
        refine eb_call (Ps := [isEx pRaw (RawOk al t)]) (eab_cons (eb_callB (eab_cons (eb_varV h1) inferInstance (eab_cons (eb_varV h3) inferInstance (eab_cons eb_c inferInstance (eab_cons eb_c inferInstance eab_nil)))) fun F6 H6 vs Q6 s6 b6 hvs r6 => ?_) inferInstance eab_nil) fun F6 H6 vs Q6 s6 sm6 hvs r6 => ?_
        · have e : vs = [.ref D, .str al, .int n, .int t] := PrL.isVs (ws := [.ref D, .str al, .int n, .int t]) hvs
          exact ⟨F6, D, al, n, t, e, b6, hal, n1, n3, t0, by omega, r6⟩
        · cases hvs with
          | cons h1 hvs =>
            cases hvs
            obtain ⟨m, hm, h1⟩ := h1
            exact ⟨F6, m, _, rfl, sm6, h1, hm.ok, fun v F7 H7 g7 h7 => r6 v F7 H7 g7 ⟨m, ⟨hm.ok, hm.al, fun r hr p hp => by have := hm.low r hr p hp; omega⟩, h7⟩⟩
      dsimp only
      refine w_seq (w_setB W5 (j := 0) (P := isEx (pM K) (RawOk al 2)) rfl hb5 (raw rfl rfl (by decide) (by decide) (by decide) (by decide)) fun v6 F6 H6 o6 s6 W6 hb6 ⟨m1, hm1, hv6⟩ => ?_)
      have rMin : ∀ {m m' : Mach}, RawOk al 2 m → Mini m m' → RawOk al 2 m' := fun h k => ⟨k.ok, k.al.trans h.al, k.low h.low⟩
      have rRel : ∀ {m m' : Mach}, RawOk al 2 m → Rel m m' → RawOk al 2 m' := fun h k => ⟨k.ok, k.al.trans h.al, k.low h.low⟩
      -- the machines
      dsimp only
      refine w_seq (w_newLsB W6 (j := 0) (Ps := [pM K m1, isEx (pM K) (RawOk al 2)]) rfl hb6 (eab_cons (eb_var rfl inferInstance hv6) inferInstance (eab_cons (eb_ofC (Ps := [isEx (pM K) (RawOk al 2), isEx (pM K) (RawOk al 2), isEx (pM K) (RawOk al 2)]) (eb_varV rfl) (eb_lst (eab_cons (eb_of fun F7 H7 s7 sm7 => EvP.imp (ev_min sm7 (ev_var rfl inferInstance ((inferInstance : Mn (pM K m1)).mn s7 hv6)) hm1.ok) fun F v ⟨m, hm, h⟩ => ⟨m, rMin hm1 hm, h⟩) inferInstance (eab_cons (eb_of fun F7 H7 s7 sm7 => EvP.imp (ev_rel sm7 (ev_var rfl inferInstance ((inferInstance : Mn (pM K m1)).mn s7 hv6)) hm1.ok) fun F v ⟨m, hm, h⟩ => ⟨m, rRel hm1 hm, h⟩) inferInstance (eab_cons (raw rfl rfl (by decide) (by decide) (by decide) (by decide)) inferInstance eab_nil))) inferInstance) inferInstance (by simp) (by simp) fun P hP F v p => by
          simp only [List.mem_cons, List.not_mem_nil, or_false, or_self] at hP
          subst hP
          exact p) inferInstance eab_nil)) (by simp) fun M vs F7 H7 o7 s7 W7 hb7 ps => ?_)
      cases ps with
      | cons h1 ps =>
        cases ps with
        | cons h2 ps =>
          cases ps
          rename_i va vb
          obtain ⟨m2, hm2, hvb⟩ := h2
          dsimp only
          refine w_seq (w_appX (P := isEx (pM K) (RawOk al 2)) W7 (i := 0) (j := 1) rfl rfl (by decide) rfl (ex_ofC (Ps := [isEx (pM K) (RawOk al 2), isEx (pM K) (RawOk al 2)]) rfl (ex_lst (eax_cons (ex_of (EvP.imp (ev_rel (m := m2) W7.same (EvP.kn (ev_ixO (W7.at (j := 0) rfl) (ev_varV rfl) ev_c rfl) inferInstance hvb) hm2.ok) fun F v ⟨m, hm, h⟩ => ⟨m, rRel hm2 hm, h⟩) (W7.bw (j := 1) rfl hb7)) inferInstance (eab_cons (raw rfl rfl (by decide) (by decide) (by decide) (by decide)) inferInstance eab_nil)) inferInstance (by simp)) inferInstance (by simp) (by simp) fun P hP F v p => by
              simp only [List.mem_cons, List.not_mem_nil, or_false, or_self] at hP
              subst hP
              exact p) (show 2 < 100000 by decide) fun v8 F8 H8 o8 s8 W8 hb8 ⟨m3, hm3, hv8⟩ => ?_)
          obtain ⟨W9, s9⟩ := W8.frz (j := 0) rfl (fun od u z => by cases z)
          have W9 : Wr (fun _ => none) H [(D, o8)] (upd F8 M (.lst [va, vb, v8])) H8 none := W9
          have s9 : Same F8 (upd F8 M (.lst [va, vb, v8])) := s9
          have hb9 : BagC (upd F8 M (.lst [va, vb, v8])) o8 := hb8.mn s9
          have hM : isLst ([m1, m2, m3].map (pM K)) (upd F8 M (.lst [va, vb, v8])) (.ref M) := ⟨M, _, rfl, upd_same, .cons ((inferInstance : Mn (pM K m1)).mn (s8.trans s9) h1) (.cons ((inferInstance : Mn (pM K m2)).mn (s8.trans s9) hvb) (.cons ((inferInstance : Mn (pM K m3)).mn s9 hv8) .nil))⟩
          have hms : ∀ m ∈ [m1, m2, m3], RawOk al 2 m := fun m hm => by
            simp only [List.mem_cons, List.not_mem_nil, or_false] at hm
            rcases hm with rfl | rfl | rfl
            · exact hm1
            · exact hm2
            · exact hm3
          have hml : [m1, m2, m3].length = 3 := rfl
          generalize [m1, m2, m3] = ms at hM hms hml
          generalize upd F8 M (.lst [va, vb, v8]) = F9 at W9 hM hb9 s9
          have eqM : ∀ {m m' : Mach}, m ∈ ms → m' ∈ ms → MOk m' ∧ m'.al = m.al := fun h h' => ⟨(hms _ h').ok, (hms _ h').al.trans (hms _ h).al.symm⟩
          -- the table
          dsimp only
          refine w_seq (w_set W9 (P := isLst (ms.map fun m => isLst (ms.map fun m' => isV (.bl (eqb m m'))))) (EvP.imp (ev_lc (xs := ms) (f := pM K) (p := fun _ => true) (q := fun m => isLst (ms.map fun m' => isV (.bl (eqb m m')))) (k := none) (ei_list (f := pM K) (ev_var rfl inferInstance hM) fun _ => inferInstance) (fun _ _ _ z => by cases z) (by omega) (fun _ => inferInstance) fun m vm F10 H10 hm g10 sb10 hvm Q10 hQ10 => ?_) fun F v h => ?_) fun vT F10 H10 g10 W10 hT => ?_)
          · refine hQ10 _ rfl et_yes fun _ => EvP.imp (ev_lc (xs := ms) (f := pM K) (p := fun _ => true) (q := fun m' => isV (.bl (eqb m m'))) (k := none) (ei_list (f := pM K) (ev_var rfl inferInstance ((inferInstance : Mn (isLst (ms.map (pM K)))).mn g10.fx hM)) fun _ => inferInstance) (fun _ _ _ z => by cases z) (by omega) (fun _ => inferInstance) fun m' vm' F11 H11 hm' g11 sb11 hvm' Q11 hQ11 => ?_) fun F v h => ?_
            · have sm11 : Same F11 H11 := Gr.same (Gr.same W9.same g10) g11
              exact hQ11 _ rfl et_yes fun _ => ev_dif (m := m) (C := fun z => z = m') sm11 (ev_var rfl inferInstance ((inferInstance : Mn (pM K m)).mn g11.fx hvm)) (EvP.imp (ev_var (P := pM K m') rfl inferInstance hvm') fun F v h => ⟨m', rfl, h⟩) (hms m hm).ok fun z e => by
                subst e
                exact ⟨(eqM hm hm').1, (eqM hm hm').2, rfl⟩
            · rw [List.filter_eq_self.mpr fun _ _ => rfl] at h
              exact h
          · rw [List.filter_eq_self.mpr fun _ _ => rfl] at h
            exact h
          have s10 : Same F9 F10 := g10.fx
          have hM10 := (inferInstance : Mn (isLst (ms.map (pM K)))).mn s10 hM
          -- the rows
          dsimp only
          refine w_seq (w_setB W10 (j := 0) (P := isEx (fun ys : List (Str × Str) => isLst (ys.map fun p => pSS p.1 p.2)) fun ys => (∃ xs, xs = List.range 6 ∧ ys.length = xs.length) ∧ ∀ y ∈ ys, RowOk al y) rfl (hb9.mn s10) (eb_lc (Y := fun _ (i : Nat) => isV (.int (i : Nat))) (f := fun p : Str × Str => pSS p.1 p.2) (C := RowOk al) (eib_of (xs := List.range 6) fun F11 H11 s11 sm11 => ei_rng1 (n := 6) (ea_cons ev_c inferInstance ea_nil) (by decide)) (fun xs e => by rw [e]; decide) (fun _ => inferInstance) fun i x v F11 H11 s11 b11 hv Q11 hQ11 => ?_) fun vR F11 H11 o11 s11 W11 hb11 ⟨ps, ⟨⟨xs, hxs, hpl⟩, hps⟩, hR⟩ => ?_)
          · refine hQ11 _ rfl (eb_callB (eab_cons (eb_varV rfl) inferInstance (eab_cons (eb_varV rfl) inferInstance (eab_cons eb_c inferInstance eab_nil))) fun F12 H12 vs Q12 s12 b12 hvs r12 => ?_)
            have e : vs = [.ref D, .str al, .int 5] := PrL.isVs (ws := [.ref D, .str al, .int 5]) hvs
            exact ⟨F12, D, al, 5, e, b12, hal, by decide, r12⟩
          have hpl : ps.length = 6 := by rw [hpl, hxs]; rfl
          have s911 : Same F9 F11 := s10.trans s11
          have hM11 := (inferInstance : Mn (isLst (ms.map (pM K)))).mn s911 hM
          have hT11 := (inferInstance : Mn (isLst (ms.map fun m => isLst (ms.map fun m' => isV (.bl (eqb m m')))))).mn s11 hT
          have at3 : ∀ i : Nat, i < 3 → ∃ m, ms[i]? = some m ∧ m ∈ ms := fun i hi => ⟨ms[i]'(by omega), List.getElem?_eq_getElem (by omega), List.getElem_mem _⟩
          have hix : ∀ {α : Type} {f : α → Pr} {xs : List α} {i : Nat} {x : α}, xs[i]? = some x → atI (xs.map f) (i : Int) = some (f x) := fun {α f xs i x} h => atI_nat (by rw [List.getElem?_map, h]; rfl)
          -- items of the two lists
          have mix : ∀ {σ : L2.St} {F' H' : Hp} {j i : Nat} {m : Mach}, Same F11 F' → σ[5]? = some (some (.ref M)) → σ[j]? = some (some (.int (i : Nat))) → ms[i]? = some m → EvP (tOp (rIxL K) (tVar 5) (tVar j)) σ F' H' (pM K m) := fun {σ F' H' j i m} s h5 hj hm =>
            ev_op (ev_var (P := isLst (ms.map (pM K))) h5 inferInstance ((inferInstance : Mn (isLst (ms.map (pM K)))).mn s hM11)) (ev_varV hj) inferInstance (op_ixL (hix hm))
          have tix : ∀ {σ : L2.St} {F' H' : Hp} {ti tj : TE} {i j : Nat} {m m' : Mach}, Same F11 F' → σ[6]? = some (some vT) → EvP ti σ F' H' (isV (.int (i : Nat))) → EvP tj σ F' H' (isV (.int (j : Nat))) → ms[i]? = some m → ms[j]? = some m' → EvP (tOp (rIxL K) (tOp (rIxL K) (tVar 6) ti) tj) σ F' H' (isV (.bl (eqb m m'))) := fun {σ F' H' ti tj i j m m'} s h6 hi hj hm hm' =>
            ev_op (Pa := isLst (ms.map fun m' => isV (.bl (eqb m m')))) (ev_op (ev_var (P := isLst (ms.map fun m => isLst (ms.map fun m' => isV (.bl (eqb m m'))))) h6 inferInstance ((inferInstance : Mn (isLst (ms.map fun m => isLst (ms.map fun m' => isV (.bl (eqb m m')))))).mn s hT11)) hi inferInstance (op_ixL (hix (f := fun m => isLst (ms.map fun m' => isV (.bl (eqb m m')))) hm))) hj inferInstance (op_ixL (hix (f := fun m' => isV (.bl (eqb m m'))) hm'))
          obtain ⟨mc, hc, hcm⟩ := at3 2 (by decide)
          dsimp only
          refine w_forI (xs := List.range 3) (Y := fun _ i => isV (.int (i : Nat))) W11 (ei_rng1 (n := 3) (ea_cons ev_c inferInstance ea_nil) (by decide)) fun F12 H12 g12 W12 => ?_
          refine ⟨fun i σ' F' H' => ∃ x8 x9 x10 : Option V, σ' = [some (.ref a), some (.ref D), some vx, some (.str al), some v6, some (.ref M), some vT, some vR, x8, x9, x10, none, none, none, none] ∧ Wr (fun _ => none) H [(D, o11)] F' H' none, ⟨_, _, _, rfl, W12⟩, ?_, ?_⟩
          · rintro i ia va2 σ' F' F13 H' H13 hia sF13 ⟨x8, x9, x10, rfl, W13⟩ g13 hva2
            obtain rfl : va2 = .int (ia : Nat) := hva2
            have hi3 : ia < 3 := List.mem_range.mp (List.mem_of_getElem? hia)
            obtain ⟨ma, ha, ham⟩ := at3 ia hi3
            have W14 := W13.gro g13
            have s14 : Same F11 F13 := (g12.fx.trans sF13).trans g13.fx
            dsimp only
            refine w_seq (w_if W14 (b := false) ((et_or (a := !true) (b := false) (et_not (et_B ((tix s14 rfl (ev_varV rfl) (ev_varV rfl) ha ha).is (by rw [eqb_refl])))) fun _ => et_test (ev_dif (m := ma) W14.same (mix s14 rfl rfl ha) (ev_cpl (al := al) W14.same (mix s14 rfl rfl ha) (hms _ ham)) (hms _ ham).ok fun _ h => h)).is rfl) (fun hb => by cases hb) fun _ F15 H15 g15 W15 => ?_)
            have s15 := s14.trans g15.fx
            dsimp only
            refine w_forI (xs := List.range 3) (Y := fun _ i => isV (.int (i : Nat))) W15 (ei_rng1 (n := 3) (ea_cons ev_c inferInstance ea_nil) (by decide)) fun F16 H16 g16 W16 => ?_
            refine ⟨fun i σ' F' H' => ∃ x9 x10 : Option V, σ' = [some (.ref a), some (.ref D), some vx, some (.str al), some v6, some (.ref M), some vT, some vR, some (.int (ia : Nat)), x9, x10, none, none, none, none] ∧ Wr (fun _ => none) H [(D, o11)] F' H' none, ⟨_, _, rfl, W16⟩, ?_, ?_⟩
            · rintro j ib vb2 σ' F' F17 H' H17 hib sF17 ⟨x9, x10, rfl, W17⟩ g17 hvb2
              obtain rfl : vb2 = .int (ib : Nat) := hvb2
              have hj3 : ib < 3 := List.mem_range.mp (List.mem_of_getElem? hib)
              obtain ⟨mb, hb, hbm⟩ := at3 ib hj3
              have W18 := W17.gro g17
              have s18 : Same F11 F17 := ((s15.trans g16.fx).trans sF17).trans g17.fx
              have syab : eqb ma mb = eqb mb ma := eqb_symm (eqM ham hbm).2
              have tr : eqb ma mb = true → eqb mb mc = true → eqb ma mc = true := fun h1 h2 => eqb_iff.mpr ((eqb_iff.mp h1).trans (eqM ham hbm).2 (eqb_iff.mp h2))
              dsimp only
              refine w_seq (w_if W18 (b := false) ((et_or (et_test (ev_op (tix s18 rfl (ev_varV rfl) (ev_varV rfl) ha hb) (tix s18 rfl (ev_varV rfl) (ev_varV rfl) hb ha) inferInstance (op_Ne rfl))) fun _ => et_and (et_B (tix s18 rfl (ev_varV rfl) (ev_varV rfl) ha hb)) fun _ => et_and (et_B (tix (j := 2) s18 rfl (ev_varV rfl) ev_c hb hc)) fun _ => et_not (et_B (tix (j := 2) s18 rfl (ev_varV rfl) ev_c ha hc))).is ?_) (fun hb => by cases hb) fun _ F19 H19 g19 W19 => ?_)
              · rw [← syab, decide_eq_true rfl]
                cases h1 : eqb ma mb with
                | false => rfl
                | true =>
                  cases h2 : eqb mb mc with
                  | false => rfl
                  | true => rw [tr h1 h2]; rfl
              have s19 := s18.trans g19.fx
              have hR19 := (inferInstance : Mn (isLst (ps.map fun p => pSS p.1 p.2))).mn s19 hR
              have acl : ∀ {j i : Nat} {m : Mach}, ([some (.ref a), some (.ref D), some vx, some (.str al), some v6, some (.ref M), some vT, some vR, some (.int (ia : Nat)), some (.int (ib : Nat)), x10, none, none, none, none] : L2.St)[j]? = some (some (.int (i : Nat))) → j < 14 → ms[i]? = some m → m ∈ ms →
                  EvP (tLc (iList K (tVar 7)) (gName 14) tYes (tMeth (MC K) "accepts" (spAcc K) [] E0 (tOp (rIxL K) (tVar 5) (tVar j)) (tCons (tVar 14) tNil)) [14]) [some (.ref a), some (.ref D), some vx, some (.str al), some v6, some (.ref M), some vT, some vR, some (.int (ia : Nat)), some (.int (ib : Nat)), x10, none, none, none, none] F19 H19 (isLst (ps.map fun p => isV (.bl (accB m p)))) := by
                intro j i m hj hj14 hm hmm
                refine EvP.imp (ev_lc (xs := ps) (f := fun p : Str × Str => pSS p.1 p.2) (p := fun _ => true) (q := fun p => isV (.bl (accB m p))) (k := none) (ei_list (f := fun p : Str × Str => pSS p.1 p.2) (ev_var rfl inferInstance hR19) fun _ => inferInstance) (fun _ _ _ z => by cases z) (by omega) (fun _ => inferInstance) fun p vp F20 H20 hp g20 sb20 hvp Q20 hQ20 => ?_) fun F v h => ?_
                · have sm20 : Same F20 H20 := Gr.same W19.same g20
                  refine hQ20 _ rfl et_yes fun _ => ev_accB (al := al) sm20 (mix (s19.trans g20.fx) rfl ?_ hm) (ev_var (P := pSS p.1 p.2) rfl inferInstance hvp) (hms _ hmm) (hps p hp)
                  show ([some (.ref a), some (.ref D), some vx, some (.str al), some v6, some (.ref M), some vT, some vR, some (.int (ia : Nat)), some (.int (ib : Nat)), x10, none, none, none, none].set 14 (some vp) : L2.St)[j]? = _
                  rw [List.getElem?_set_ne (by omega)]
                  exact hj
                · rw [List.filter_eq_self.mpr fun _ _ => rfl] at h
                  exact h
              dsimp only
              refine w_seq (w_set W19 (P := isEx (fun b => isV (.bl b)) fun b => (∀ p ∈ ps, accB ma p = accB mb p) → b = true) (ev_op (acl (j := 8) rfl (by decide) ha ham) (acl (j := 9) rfl (by decide) hb hbm) inferInstance op_eqBools) fun v20 F20 H20 g20 W20 ⟨bb, hbb, e20⟩ => ?_)
              obtain rfl : v20 = .bl bb := e20
              have s20 := s19.trans g20.fx
              have same : eqb ma mb = true → bb = true := fun h => hbb fun p hp => by
                have E := eqb_iff.mp h
                have els : ma.ls = al.cps.toList := by unfold Mach.ls; rw [(hms _ ham).al]
                have hp := hps p hp
                have := E p.1.cps.toList p.2.cps.toList (by rw [els]; exact hp.u) (by rw [els]; exact hp.w) (fun z => hp.n (by rw [← Array.length_toList, z]; rfl))
                unfold accB
                rw [this]
              dsimp only
              refine w_if W20 (b := false) ((et_and (a := eqb ma mb) (b := false) (et_B (tix s20 rfl (ev_varV rfl) (ev_varV rfl) ha hb)) fun h => (et_or (a := !true) (b := false) (et_not (et_B ((ev_varV rfl).is (by rw [same h])))) fun _ => et_test (ev_op (ev_few W20.same (mix s20 rfl rfl ha) (hms _ ham).ok) (ev_few W20.same (mix s20 rfl rfl hb) (hms _ hbm).ok) inferInstance ?_)).is rfl).is (by rw [Bool.and_false])) (fun hb => by cases hb) fun _ F21 H21 g21 W21 => ?_
              · exact fun F21 H21 x y g s ⟨z, hz, hx⟩ ⟨z', hz', hy⟩ Q q => by
                  obtain rfl : x = .int z := hx
                  obtain rfl : y = .int z' := hy
                  have e := few_eq (hms _ ham).ok (hms _ hbm).ok (eqM ham hbm).2 (eqb_iff.mp h) hz hz'
                  subst e
                  exact op_Ne (v := .int z) (w := .int z) rfl F21 H21 _ _ Gr.refl s rfl rfl Q fun v F22 H22 g22 e => q v F22 H22 g22 (by
                    have e : v = _ := e
                    rw [e]
                    show V.bl _ = V.bl false
                    rw [decide_eq_true rfl]; rfl)
              · exact ⟨F21, (((sF17.trans g17.fx).trans g19.fx).trans g20.fx).trans g21.fx, W21.sub, _, _, rfl, W21⟩
            · rintro σ' F' H' sF17 ⟨x9, x10, rfl, W17⟩
              exact ⟨F', ((sF13.trans g13.fx).trans g15.fx).trans (g16.fx.trans sF17), W17.sub, _, _, _, rfl, W17⟩
          · rintro σ' F' H' sF13 ⟨x8, x9, x10, rfl, W13⟩
            exact ⟨F', ((((((sF.trans g3.fx).trans s5).trans s6).trans s7).trans s8).trans s9).trans (s911.trans (g12.fx.trans sF13)), W13.sub, o11, _, _, _, _, _, _, _, _, _, rfl, W13, hb11.mn (g12.fx.trans sF13)⟩
    · rintro σ' F' H' sF ⟨o, x2, x3, x4, x5, x6, x7, x8, x9, x10, rfl, W3, hb3⟩
      dsimp only
      refine w_ret W3 ev_c fun v7 F7 H7 g7 W7 e7 => ?_
      obtain rfl : v7 = .bl true := e7
      exact k H7
end
end EL

set_option Elab.async false
set_option linter.all false
set_option maxRecDepth 100000
set_option maxHeartbeats 0
namespace EL
open PySem PySem.Spec PyProof.Rows L2
theorem facts {P : Program} {w : World} {K : PySem.W.Frag} {h : Heap} {mg : Str → Option Value} {f : Addr} (X : K.In h) (G : h.Ns mainGlobals mg) (hf : mg ("law" : Str) = some (.ref f)) (c : He.SaysD fa fn K) :
    ∃ fd : FuncData, (∀ (s : Shared) (v : Value), BindsTo s fd ⟨[v], []⟩ [("_law_script", v)]) ∧ ∀ base : Heap, K.In base → base.Ns mainGlobals mg → FnOk P w K mg base CX0 15 f fd ["_law_script"] (spLaw K) := by
  have E : Tops K mg := ⟨⟨h, X, G⟩, c⟩
  obtain ⟨fd, F⟩ := E.f_Law
  have e := hf.symm.trans E.g_law
  cases e
  have b := FunD.bindsA (ps := ["_law_script"]) F fun _ _ _ _ _ _ us hl => match us, hl with | [_], _ => rfl
  exact ⟨fd, fun s v => b s [v] rfl, fun base _ _ => ok_law E F⟩
end EL
open PySem PySem.W PySem.Calls PyProof.Rows
theorem PySem.Challenge.cw_echoladder_k18_whole_equivalence_holds : PySem.Challenge.rw_echoladder_k18_whole_equivalence.Holds := by
  w_on; o_law
  refine HandSHeadRun.head_any (r := OpenLaw.row PySem.Challenge.rw_echoladder_k18_whole_equivalence) (q := view (OpenLaw.row PySem.Challenge.rw_echoladder_k18_whole_equivalence).prog [63]) (H := EL.hk) (ob := EL.ob) (M := 9000) (loose := EL.loose) (d := HandSHeadRun.topDef (OpenLaw.row PySem.Challenge.rw_echoladder_k18_whole_equivalence).prog 63) (kwd := []) EL.ob_eq
    (by kernel_rfl) (fun s => by kernel_rfl) EL.runHead (by kernel_rfl) (by kernel_rfl) (by kernel_rfl) (by rfl) (by first | assumption | decide +kernel) (by decide +kernel) ⟨rfl, rfl, rfl, rfl, rfl, by decide +kernel⟩ ?hw ?hc
  case hw => w_witness2
  case hc =>
    refine L2.walk_ofE (l := PySem.Challenge.rw_echoladder_k18_whole_equivalence) (n := 63) (k := 15) (x := "_law_script") (CX := L2.CX0) rfl (by decide) (by kernel_rfl) ⟨rfl, by decide, by decide⟩ ?F (fun _ _ _ _ z => z)
    intro w mg fa h Y G hmg0
    obtain ⟨K, KX, c⟩ := Y
    have hmg : mg ("law" : PySem.Str) = some (.ref fa) := by
      have e : (HandSHeadRun.topDef (OpenLaw.row PySem.Challenge.rw_echoladder_k18_whole_equivalence).prog 63).name = ("law" : PySem.Str) := by kernel_rfl
      rw [← e]
      exact hmg0
    obtain ⟨fd, hb, hF⟩ := EL.facts (P := (PySem.Challenge.rw_echoladder_k18_whole_equivalence).prog) (w := w) KX G hmg c
    exact ⟨K, fd, EL.spLaw K, KX, hb, fun H a ns hl _ hS => ⟨a, ns, rfl, hS, fun _ => rfl⟩, hF⟩

