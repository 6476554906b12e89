import PyProof.Rows.All
import Wide.All
import OpenK.AllK
import Wide.FinOn
import Lean
import HandS.ForMost
import HandS.More
import HandS.Exc
import HandS.Defaults
import HandS.MakeKw
import HandS.MakeKwOnly
import HandS.Property
import HandS.Codes
import HandS.IsInst
import HandS.Zip
import HandS.Style
import HandS.Conv
import HandS.Star
import HandS.SetKeys
import HandS.Small
import HandS.Wide
import HandS.WideBits
import HandS.TupAny
import HandS.Walk
import HandS.Deep
import HandS.StrMore
import HandS.SetTxt0
import HandS.Sort
import HandS.SortOrd
import KE.KDictKeyed
import KE.KDictZip
import KE.KDictLaw
import KE.KDictDisplayH
import KE.GoesEnum
import KE.LtData
import HandS.Head0
import HandS.Head1
import HandS.Head2
import HandS.HeadEnd
import HandS.HeadHook1
import HandS.HeadHook2
import HandS.HeadHook3
import HandS.EndTab
import HandS.HeadWalk
import PySem.Challenge.RW_meantword_k71_whole_changes_in_long_stre
import PyProof.ListStr
import PyProof.StrOps2
import PyProof.Rows.StrStep
import KE.GoesMore
import KE.LtSeq
import PyProof.MinMaxWalk
import HandS.Set
import HandS.SetFor
import PyProof.Rows.SortStr
import PyProof.Rows.SortShellK
import HandS.TupLen
import KE.KeyNested
import KE.KDictPairs
import KE.KDictCopyH
import KE.KTupTabMore
import KE.KDictLaws
import PyProof.CompMap
set_option Elab.async false
set_option linter.all false
set_option maxRecDepth 100000
set_option maxHeartbeats 4000000


namespace Mw
open PySem PySem.Spec PyProof.Rows L2
/-! ### a hook of our own: the part of the heap that the facts look at, level by level -/
def refsM (o : Obj) : List Addr := match o.data with
  | .func fd => He.refV fd.code ++ He.refV fd.defaults ++ He.refV fd.kwdefaults
  | .cls cd => [cd.ns]
  | .dict es _ => es.toList.flatMap fun e => He.refV e.val
  | .fields vs => (match o.cls with
    | .type n => (match n == "property" with
      | true => vs.toList.flatMap He.refV
      | false => [])
    | _ => [])
  | _ => []
def nextM (g : Addr → Option Obj) (as : List Addr) : List Addr := as.flatMap fun a => match g a with
  | some o => refsM o
  | none => []
def levM (g : Addr → Option Obj) : Nat → List Addr → List Addr
  | 0, as => as
  | n + 1, as => as ++ levM g n (nextM g as)
def asM (g : Addr → Option Obj) : List Addr := levM g 5 [mainGlobals]
/-- a def: where it stands -/
structure DefM where
  adr : PySem.W.Frag → Addr
  name : Str
  qual : Str
  params : Arguments
  body : List Stmt
  scope : Scope
  dfl : List He.Dv := []
  kwd : List (Str × He.Dv) := []
def fnM (K : PySem.W.Frag) (a : Addr) : He.FnW := match K.lookup a with
  | some ⟨_, _, .func fd, _⟩ => some (fd.name, fd.qualname, fd.params, fd.body, fd.scope, fd.globals, fd.closure, fd.builtins)
  | _ => none
def DefM.val (d : DefM) : He.FnW := some (d.name, d.qual, d.params, .stmts d.body, d.scope, mainGlobals, [], builtinsNs)
def DefM.dvs (K : PySem.W.Frag) (d : DefM) : List V := d.dfl.map (He.Dv.v K)
def DefM.kws (K : PySem.W.Frag) (d : DefM) : List (Str × V) := d.kwd.map fun q => (q.1, q.2.v K)
def DefM.ok (K : PySem.W.Frag) (d : DefM) : Bool := PySem.W.keepIn K (.ref (d.adr K)) && (match K.lookup (d.adr K) with
  | some ⟨_, _, .func fd, _⟩ => PySem.W.codeIn K fd.code d.qual && (He.dflB K fd.defaults (d.dvs K) && He.kwdB K fd.kwdefaults (d.kws K))
  | _ => false)
theorem DefM.funD {K : PySem.W.Frag} {d : DefM} (e : fnM K (d.adr K) = d.val) (c : d.ok K = true) : ∃ fd, FunD K d.name d.qual d.params d.body d.scope (d.dvs K) (d.kws K) (d.adr K) fd := by
  obtain ⟨kp, c2⟩ := He.ba c
  unfold fnM at e
  cases q : K.lookup (d.adr K) with
  | none =>
    rw [q] at c2
    cases c2
  | some o =>
    obtain ⟨oc, od, dt, osl⟩ := o
    rw [q] at c2 e
    cases dt with
    | func fd =>
      obtain ⟨n1, n2, n3, n4, n5, n6, n7, n8, n9, n10, n11, n12, n13, n14, n15⟩ := fd
      have e2 : (some (n1, n2, n3, n4, n5, n6, n7, n15) : He.FnW) = some (d.name, d.qual, d.params, .stmts d.body, d.scope, mainGlobals, [], builtinsNs) := e
      simp only [Option.some.injEq, Prod.mk.injEq] at e2
      obtain ⟨h1, h2, h3, h4, h5, h6, h7, h8⟩ := e2
      subst h1 h2 h3 h4 h5 h6 h7 h8
      have c3 : (PySem.W.codeIn K n13 d.qual && (He.dflB K n8 (d.dvs K) && He.kwdB K n9 (d.kws K))) = true := c2
      obtain ⟨k1, k2⟩ := He.ba c3
      obtain ⟨k3, k4⟩ := He.ba k2
      exact ⟨_, ⟨oc, od, n8, n9, n10, n11, n12, n13, n14, osl, rfl, q, k1, He.dflB_ok k3, He.kwdB_ok k4⟩, kp⟩
    | _ => cases c2
/-! ### properties, instances that are called, isinstance of own classes -/
def getterOf (K : PySem.W.Frag) (C f : Str) : Addr := match PySem.W.recIn K (He.ma K (He.ga K C) f) "property" with
  | some (.ref g :: _) => g
  | _ => 0
def propB (K : PySem.W.Frag) (C f : Str) : Bool := He.eqO (PySem.W.findIn K (.ref (He.ga K C)) f) (some (some (.ref (He.ma K (He.ga K C) f)))) &&
  (He.eqO (PySem.W.specialIn K (.ref (He.ma K (He.ga K C) f)) "__get__") (some (some (.builtin "property.__get__"))) &&
  (decide (PySem.W.takesIn K (.ref (He.ma K (He.ga K C) f)) = some true) && (match PySem.W.recIn K (He.ma K (He.ga K C) f) "property" with
    | some (.ref _ :: _) => true
    | _ => false)))
theorem propB_ok {K : PySem.W.Frag} {C f : Str} (h : propB K C f = true) : PropOf K (He.ga K C) f (He.ma K (He.ga K C) f) (getterOf K C f) := by
  obtain ⟨h1, h⟩ := He.ba h
  obtain ⟨h2, h⟩ := He.ba h
  obtain ⟨h3, h4⟩ := He.ba h
  refine ⟨He.eqO_ok h1, He.eqO_ok h2, of_decide_eq_true h3, ?_⟩
  unfold getterOf
  split at h4
  · rename_i g r e
    rw [e]
    exact ⟨r, rfl⟩
  · cases h4
def callB (K : PySem.W.Frag) (C : Str) : Bool := He.eqO (PySem.W.findIn K (.ref (He.ga K C)) "__call__") (some (some (.ref (He.ma K (He.ga K C) "__call__")))) && (PySem.W.isFn K (.ref (He.ma K (He.ga K C) "__call__")) && PySem.W.fnIn K (He.ma K (He.ga K C) "__call__"))
theorem callB_ok {K : PySem.W.Frag} {C : Str} (h : callB K C = true) : StX.CallO K (He.ga K C) (He.ma K (He.ga K C) "__call__") := by
  obtain ⟨h1, h⟩ := He.ba h
  obtain ⟨h2, h3⟩ := He.ba h
  exact ⟨He.eqO_ok h1, h2, h3⟩
def kitB2 (K : PySem.W.Frag) (C D : Str) (b : Bool) : Bool := decide (PySem.W.kitOne K (.ref (He.ga K C)) (.ref (He.ga K D)) = some b)
def insB (K : PySem.W.Frag) (C : Str) : Bool := He.eqO (PySem.W.findIn K (.ref (He.ga K C)) "__class__") (some (some (.builtin "object.__class__"))) && decide (PySem.W.mroIn K (He.ga K C) (.type "object") = some true)
def objB (K : PySem.W.Frag) : Bool := He.eqO (PySem.W.specialIn K (.builtin "object.__class__") "__get__") (some (some (.builtin "getset_descriptor.__get__"))) && decide (PySem.W.takesIn K (.builtin "object.__class__") = some true)
/-! ### the hook -/
abbrev AlM : Type := Bool × List He.FnW
def obsM (fa : List He.Fa) (fn : List DefM) (ex : PySem.W.Frag → Bool) (K : PySem.W.Frag) : AlM := ((fa.all fun f => f.ok K) && ((fn.all fun d => d.ok K) && ex K), fn.map fun d => fnM K (d.adr K))
def valM (fn : List DefM) : AlM := (true, fn.map DefM.val)
def SaysM (fa : List He.Fa) (fn : List DefM) (ex : PySem.W.Frag → Bool) (K : PySem.W.Frag) : Prop := obsM fa fn ex K = valM fn
def obsMG (fa : List He.Fa) (fn : List DefM) (ex : PySem.W.Frag → Bool) (g : Addr → Option Obj) : AlM := obsM fa fn ex (He.frG g (asM g))
def hookM (fa : List He.Fa) (fn : List DefM) (ex : PySem.W.Frag → Bool) : PySem.W.Hook where
  α := AlM
  obs := fun s => obsMG fa fn ex s.heap.get?
  val := fun _ => valM fn
  says := fun _ h => ∃ K : PySem.W.Frag, K.In h ∧ SaysM fa fn ex K
  of := fun _ _ e => ⟨_, He.frG_in, e⟩
  keeps := fun _ _ _ ⟨K, hK, c⟩ k => ⟨K, PySem.W.Frag.In.keeps hK k, c⟩
theorem obsMG_eq {fa : List He.Fa} {fn : List DefM} {ex : PySem.W.Frag → Bool} {g : Addr → Option Obj} {s : Shared} (h : ∀ a, g a = s.heap.get? a) : obsMG fa fn ex g = (hookM fa fn ex).obs s := by
  have e : g = s.heap.get? := funext h
  rw [e] <;> rfl
section
variable {fa : List He.Fa} {fn : List DefM} {ex : PySem.W.Frag → Bool} {K : PySem.W.Frag}
theorem SaysM.fact (c : SaysM fa fn ex K) (i : Nat) {f : He.Fa} (h : fa[i]? = some f) : f.ok K = true :=
  List.all_eq_true.mp (He.ba (congrArg (fun z : AlM => z.1) c)).1 f (List.mem_of_getElem? h)
theorem SaysM.more (c : SaysM fa fn ex K) : ex K = true := (He.ba (He.ba (congrArg (fun z : AlM => z.1) c)).2).2
theorem SaysM.def_ (c : SaysM fa fn ex K) (i : Nat) {d : DefM} (h : fn[i]? = some d) : ∃ fd, FunD K d.name d.qual d.params d.body d.scope (d.dvs K) (d.kws K) (d.adr K) fd := by
  have c2 := (He.ba (He.ba (congrArg (fun z : AlM => z.1) c)).2).1
  have e : fn.map (fun d => fnM K (d.adr K)) = fn.map DefM.val := congrArg (fun z : AlM => z.2) c
  have e2 : (fn.map fun d => fnM K (d.adr K))[i]? = (fn.map DefM.val)[i]? := by rw [e]
  rw [List.getElem?_map, List.getElem?_map, h] at e2
  exact DefM.funD (Option.some.inj e2) (List.all_eq_true.mp c2 d (List.mem_of_getElem? h))
end

/-! ### the text -/
def top (i : Nat) : Stmt := PySem.Challenge.pw_meantword_k71_whole_changes_in_long_stre.main.body.getD i (.Pass ⟨0, 0, 0, 0⟩)
abbrev sIsInteger : Stmt := top 17
abbrev sIsText : Stmt := top 18
abbrev sIsLetter : Stmt := top 19
abbrev sIsWord : Stmt := top 20
abbrev sIsPrice : Stmt := top 21
abbrev sNeedText : Stmt := top 22
abbrev sLettersOf : Stmt := top 29
abbrev sIsRow : Stmt := top 33
abbrev sIsState : Stmt := top 34
abbrev sNextWorths : Stmt := top 35
abbrev sStepped : Stmt := top 36
abbrev sLeastTotal : Stmt := top 37
abbrev sFirstHeard : Stmt := top 43
abbrev sHeardStep : Stmt := top 44
abbrev sHeardWord : Stmt := top 45
abbrev sHeardState : Stmt := top 46
abbrev sIsHeardState : Stmt := top 47
abbrev sNeedHeard : Stmt := top 48
abbrev sHeardAfter : Stmt := top 49
abbrev sHeard : Stmt := top 50
abbrev sIsMachineRow : Stmt := top 53
abbrev sNeedMost : Stmt := top 55
abbrev sKnownLetters : Stmt := top 56
abbrev sTriedLetters : Stmt := top 57
abbrev sSigns : Stmt := top 58
abbrev sFirstState : Stmt := top 59
abbrev sStepOn : Stmt := top 60
abbrev sAnswerAt : Stmt := top 61
abbrev sWalks : Stmt := top 62
abbrev sGoalsByLetter : Stmt := top 63
abbrev sGroupsOf : Stmt := top 64
abbrev sSmallest : Stmt := top 65
abbrev sIsOwn : Stmt := top 69
abbrev sIsEntry : Stmt := top 70
abbrev sNeedEntries : Stmt := top 71
abbrev sGoalsOf : Stmt := top 77
abbrev sLeastTexts : Stmt := top 78
abbrev sLowest : Stmt := top 79
abbrev sEdgesOf : Stmt := top 80
abbrev sRingIn : Stmt := top 81
abbrev sImproved : Stmt := top 82
abbrev sWorthsOrRing : Stmt := top 83
abbrev sRate : Stmt := top 84
abbrev sLBegin : Stmt := top 86
abbrev sLTake : Stmt := top 87
abbrev sLPick : Stmt := top 88
abbrev sLLetters : Stmt := top 89
abbrev sLString : Stmt := top 90
abbrev sLPrices : Stmt := top 91
abbrev sLCase : Stmt := top 92
abbrev sLSlips : Stmt := top 93
abbrev sLSpeller : Stmt := top 94
abbrev sLOtherLetter : Stmt := top 95
abbrev sLText : Stmt := top 96
abbrev sLAlphabet : Stmt := top 97
abbrev sLReach : Stmt := top 98
abbrev sLPower : Stmt := top 99
abbrev sLSmall : Stmt := top 100
abbrev sLLimit : Stmt := top 101
abbrev sLListener : Stmt := top 102
abbrev sLTold : Stmt := top 103
abbrev sLRows : Stmt := top 104
abbrev sLChanges : Stmt := top 105
abbrev sLLong : Stmt := top 106
abbrev sLStep : Stmt := top 107
abbrev sLStands : Stmt := top 108
abbrev sLNear : Stmt := top 110
abbrev sLWide : Stmt := top 111
abbrev sLaw : Stmt := top 112
abbrev sSlipsInit : Stmt := inClass (top 23) 0
abbrev sSlipsExtra : Stmt := inClass (top 23) 1
abbrev sSlipsMissing : Stmt := inClass (top 23) 2
abbrev sSlipsWrong : Stmt := inClass (top 23) 3
abbrev sSlipsSwapped : Stmt := inClass (top 23) 4
abbrev sSpellerInit : Stmt := inClass (top 72) 0
abbrev sSpellerEntries : Stmt := inClass (top 72) 1
abbrev sSpellerSlips : Stmt := inClass (top 72) 2
abbrev sListenerInit : Stmt := inClass (top 42) 0
abbrev sListenerSpeller : Stmt := inClass (top 42) 1
abbrev sListenerLimit : Stmt := inClass (top 42) 2
abbrev sListenerCall : Stmt := inClass (top 42) 4
abbrev sMachineInit : Stmt := inClass (top 54) 0
abbrev sMachineRows : Stmt := inClass (top 54) 1
def dIsInteger : DefM := ⟨fun K => He.ga K "is_integer", "is_integer", "is_integer", defArgs sIsInteger, defBody sIsInteger, defScope sIsInteger, [], []⟩
def dIsText : DefM := ⟨fun K => He.ga K "is_text", "is_text", "is_text", defArgs sIsText, defBody sIsText, defScope sIsText, [], []⟩
def dIsLetter : DefM := ⟨fun K => He.ga K "is_letter", "is_letter", "is_letter", defArgs sIsLetter, defBody sIsLetter, defScope sIsLetter, [], []⟩
def dIsWord : DefM := ⟨fun K => He.ga K "is_word", "is_word", "is_word", defArgs sIsWord, defBody sIsWord, defScope sIsWord, [], []⟩
def dIsPrice : DefM := ⟨fun K => He.ga K "is_price", "is_price", "is_price", defArgs sIsPrice, defBody sIsPrice, defScope sIsPrice, [], []⟩
def dNeedText : DefM := ⟨fun K => He.ga K "need_text", "need_text", "need_text", defArgs sNeedText, defBody sNeedText, defScope sNeedText, [], []⟩
def dLettersOf : DefM := ⟨fun K => He.ga K "letters_of", "letters_of", "letters_of", defArgs sLettersOf, defBody sLettersOf, defScope sLettersOf, [], []⟩
def dIsRow : DefM := ⟨fun K => He.ga K "is_row", "is_row", "is_row", defArgs sIsRow, defBody sIsRow, defScope sIsRow, [], []⟩
def dIsState : DefM := ⟨fun K => He.ga K "is_state", "is_state", "is_state", defArgs sIsState, defBody sIsState, defScope sIsState, [], []⟩
def dNextWorths : DefM := ⟨fun K => He.ga K "next_worths", "next_worths", "next_worths", defArgs sNextWorths, defBody sNextWorths, defScope sNextWorths, [], []⟩
def dStepped : DefM := ⟨fun K => He.ga K "stepped", "stepped", "stepped", defArgs sStepped, defBody sStepped, defScope sStepped, [], []⟩
def dLeastTotal : DefM := ⟨fun K => He.ga K "least_total", "least_total", "least_total", defArgs sLeastTotal, defBody sLeastTotal, defScope sLeastTotal, [], []⟩
def dFirstHeard : DefM := ⟨fun K => He.ga K "first_heard", "first_heard", "first_heard", defArgs sFirstHeard, defBody sFirstHeard, defScope sFirstHeard, [], []⟩
def dHeardStep : DefM := ⟨fun K => He.ga K "heard_step", "heard_step", "heard_step", defArgs sHeardStep, defBody sHeardStep, defScope sHeardStep, [], []⟩
def dHeardWord : DefM := ⟨fun K => He.ga K "heard_word", "heard_word", "heard_word", defArgs sHeardWord, defBody sHeardWord, defScope sHeardWord, [], []⟩
def dHeardState : DefM := ⟨fun K => He.ga K "heard_state", "heard_state", "heard_state", defArgs sHeardState, defBody sHeardState, defScope sHeardState, [], []⟩
def dIsHeardState : DefM := ⟨fun K => He.ga K "is_heard_state", "is_heard_state", "is_heard_state", defArgs sIsHeardState, defBody sIsHeardState, defScope sIsHeardState, [], []⟩
def dNeedHeard : DefM := ⟨fun K => He.ga K "need_heard", "need_heard", "need_heard", defArgs sNeedHeard, defBody sNeedHeard, defScope sNeedHeard, [], []⟩
def dHeardAfter : DefM := ⟨fun K => He.ga K "heard_after", "heard_after", "heard_after", defArgs sHeardAfter, defBody sHeardAfter, defScope sHeardAfter, [], []⟩
def dHeard : DefM := ⟨fun K => He.ga K "heard", "heard", "heard", defArgs sHeard, defBody sHeard, defScope sHeard, [], []⟩
def dIsMachineRow : DefM := ⟨fun K => He.ga K "is_machine_row", "is_machine_row", "is_machine_row", defArgs sIsMachineRow, defBody sIsMachineRow, defScope sIsMachineRow, [], []⟩
def dNeedMost : DefM := ⟨fun K => He.ga K "need_most", "need_most", "need_most", defArgs sNeedMost, defBody sNeedMost, defScope sNeedMost, [], []⟩
def dKnownLetters : DefM := ⟨fun K => He.ga K "known_letters", "known_letters", "known_letters", defArgs sKnownLetters, defBody sKnownLetters, defScope sKnownLetters, [], []⟩
def dTriedLetters : DefM := ⟨fun K => He.ga K "tried_letters", "tried_letters", "tried_letters", defArgs sTriedLetters, defBody sTriedLetters, defScope sTriedLetters, [], []⟩
def dSigns : DefM := ⟨fun K => He.ga K "signs", "signs", "signs", defArgs sSigns, defBody sSigns, defScope sSigns, [], []⟩
def dFirstState : DefM := ⟨fun K => He.ga K "first_state", "first_state", "first_state", defArgs sFirstState, defBody sFirstState, defScope sFirstState, [], []⟩
def dStepOn : DefM := ⟨fun K => He.ga K "step_on", "step_on", "step_on", defArgs sStepOn, defBody sStepOn, defScope sStepOn, [], []⟩
def dAnswerAt : DefM := ⟨fun K => He.ga K "answer_at", "answer_at", "answer_at", defArgs sAnswerAt, defBody sAnswerAt, defScope sAnswerAt, [], []⟩
def dWalks : DefM := ⟨fun K => He.ga K "walks", "walks", "walks", defArgs sWalks, defBody sWalks, defScope sWalks, [], []⟩
def dGoalsByLetter : DefM := ⟨fun K => He.ga K "goals_by_letter", "goals_by_letter", "goals_by_letter", defArgs sGoalsByLetter, defBody sGoalsByLetter, defScope sGoalsByLetter, [], []⟩
def dGroupsOf : DefM := ⟨fun K => He.ga K "groups_of", "groups_of", "groups_of", defArgs sGroupsOf, defBody sGroupsOf, defScope sGroupsOf, [], []⟩
def dSmallest : DefM := ⟨fun K => He.ga K "smallest", "smallest", "smallest", defArgs sSmallest, defBody sSmallest, defScope sSmallest, [], [("most", .int 2000)]⟩
def dIsOwn : DefM := ⟨fun K => He.ga K "is_own", "is_own", "is_own", defArgs sIsOwn, defBody sIsOwn, defScope sIsOwn, [], []⟩
def dIsEntry : DefM := ⟨fun K => He.ga K "is_entry", "is_entry", "is_entry", defArgs sIsEntry, defBody sIsEntry, defScope sIsEntry, [], []⟩
def dNeedEntries : DefM := ⟨fun K => He.ga K "need_entries", "need_entries", "need_entries", defArgs sNeedEntries, defBody sNeedEntries, defScope sNeedEntries, [], []⟩
def dGoalsOf : DefM := ⟨fun K => He.ga K "goals_of", "goals_of", "goals_of", defArgs sGoalsOf, defBody sGoalsOf, defScope sGoalsOf, [], []⟩
def dLeastTexts : DefM := ⟨fun K => He.ga K "least_texts", "least_texts", "least_texts", defArgs sLeastTexts, defBody sLeastTexts, defScope sLeastTexts, [], []⟩
def dLowest : DefM := ⟨fun K => He.ga K "lowest", "lowest", "lowest", defArgs sLowest, defBody sLowest, defScope sLowest, [], []⟩
def dEdgesOf : DefM := ⟨fun K => He.ga K "edges_of", "edges_of", "edges_of", defArgs sEdgesOf, defBody sEdgesOf, defScope sEdgesOf, [], []⟩
def dRingIn : DefM := ⟨fun K => He.ga K "ring_in", "ring_in", "ring_in", defArgs sRingIn, defBody sRingIn, defScope sRingIn, [], []⟩
def dImproved : DefM := ⟨fun K => He.ga K "improved", "improved", "improved", defArgs sImproved, defBody sImproved, defScope sImproved, [], []⟩
def dWorthsOrRing : DefM := ⟨fun K => He.ga K "worths_or_ring", "worths_or_ring", "worths_or_ring", defArgs sWorthsOrRing, defBody sWorthsOrRing, defScope sWorthsOrRing, [], []⟩
def dRate : DefM := ⟨fun K => He.ga K "rate", "rate", "rate", defArgs sRate, defBody sRate, defScope sRate, [], [("most", .int 2000)]⟩
def dLBegin : DefM := ⟨fun K => He.ga K "_law_begin", "_law_begin", "_law_begin", defArgs sLBegin, defBody sLBegin, defScope sLBegin, [], []⟩
def dLTake : DefM := ⟨fun K => He.ga K "_law_take", "_law_take", "_law_take", defArgs sLTake, defBody sLTake, defScope sLTake, [], []⟩
def dLPick : DefM := ⟨fun K => He.ga K "_law_pick", "_law_pick", "_law_pick", defArgs sLPick, defBody sLPick, defScope sLPick, [], []⟩
def dLLetters : DefM := ⟨fun K => He.ga K "_law_letters", "_law_letters", "_law_letters", defArgs sLLetters, defBody sLLetters, defScope sLLetters, [], []⟩
def dLString : DefM := ⟨fun K => He.ga K "_law_string", "_law_string", "_law_string", defArgs sLString, defBody sLString, defScope sLString, [], []⟩
def dLPrices : DefM := ⟨fun K => He.ga K "_law_prices", "_law_prices", "_law_prices", defArgs sLPrices, defBody sLPrices, defScope sLPrices, [], []⟩
def dLCase : DefM := ⟨fun K => He.ga K "_law_case", "_law_case", "_law_case", defArgs sLCase, defBody sLCase, defScope sLCase, [], []⟩
def dLSlips : DefM := ⟨fun K => He.ga K "_law_slips", "_law_slips", "_law_slips", defArgs sLSlips, defBody sLSlips, defScope sLSlips, [], []⟩
def dLSpeller : DefM := ⟨fun K => He.ga K "_law_speller", "_law_speller", "_law_speller", defArgs sLSpeller, defBody sLSpeller, defScope sLSpeller, [], []⟩
def dLOtherLetter : DefM := ⟨fun K => He.ga K "_law_other_letter", "_law_other_letter", "_law_other_letter", defArgs sLOtherLetter, defBody sLOtherLetter, defScope sLOtherLetter, [], []⟩
def dLText : DefM := ⟨fun K => He.ga K "_law_text", "_law_text", "_law_text", defArgs sLText, defBody sLText, defScope sLText, [], []⟩
def dLAlphabet : DefM := ⟨fun K => He.ga K "_law_alphabet", "_law_alphabet", "_law_alphabet", defArgs sLAlphabet, defBody sLAlphabet, defScope sLAlphabet, [], []⟩
def dLReach : DefM := ⟨fun K => He.ga K "_law_reach", "_law_reach", "_law_reach", defArgs sLReach, defBody sLReach, defScope sLReach, [], []⟩
def dLPower : DefM := ⟨fun K => He.ga K "_law_power", "_law_power", "_law_power", defArgs sLPower, defBody sLPower, defScope sLPower, [], []⟩
def dLSmall : DefM := ⟨fun K => He.ga K "_law_small", "_law_small", "_law_small", defArgs sLSmall, defBody sLSmall, defScope sLSmall, [], []⟩
def dLLimit : DefM := ⟨fun K => He.ga K "_law_limit", "_law_limit", "_law_limit", defArgs sLLimit, defBody sLLimit, defScope sLLimit, [], []⟩
def dLListener : DefM := ⟨fun K => He.ga K "_law_listener", "_law_listener", "_law_listener", defArgs sLListener, defBody sLListener, defScope sLListener, [], []⟩
def dLTold : DefM := ⟨fun K => He.ga K "_law_told", "_law_told", "_law_told", defArgs sLTold, defBody sLTold, defScope sLTold, [], []⟩
def dLRows : DefM := ⟨fun K => He.ga K "_law_rows", "_law_rows", "_law_rows", defArgs sLRows, defBody sLRows, defScope sLRows, [], []⟩
def dLChanges : DefM := ⟨fun K => He.ga K "_law_changes", "_law_changes", "_law_changes", defArgs sLChanges, defBody sLChanges, defScope sLChanges, [], []⟩
def dLLong : DefM := ⟨fun K => He.ga K "_law_long", "_law_long", "_law_long", defArgs sLLong, defBody sLLong, defScope sLLong, [], []⟩
def dLStep : DefM := ⟨fun K => He.ga K "_law_step", "_law_step", "_law_step", defArgs sLStep, defBody sLStep, defScope sLStep, [], []⟩
def dLStands : DefM := ⟨fun K => He.ga K "_law_stands", "_law_stands", "_law_stands", defArgs sLStands, defBody sLStands, defScope sLStands, [], []⟩
def dLNear : DefM := ⟨fun K => He.ga K "_law_near", "_law_near", "_law_near", defArgs sLNear, defBody sLNear, defScope sLNear, [], []⟩
def dLWide : DefM := ⟨fun K => He.ga K "_law_wide", "_law_wide", "_law_wide", defArgs sLWide, defBody sLWide, defScope sLWide, [], []⟩
def dLaw : DefM := ⟨fun K => He.ga K "law", "law", "law", defArgs sLaw, defBody sLaw, defScope sLaw, [], []⟩
def dSlipsInit : DefM := ⟨fun K => He.ma K (He.ga K "Slips") "__init__", "__init__", "Slips.__init__", defArgs sSlipsInit, defBody sSlipsInit, defScope sSlipsInit, [], [("extra", .int 1), ("missing", .int 1), ("wrong", .int 1), ("swapped", .non)]⟩
def dSlipsExtra : DefM := ⟨fun K => getterOf K "Slips" "extra", "extra", "Slips.extra", defArgs sSlipsExtra, defBody sSlipsExtra, defScope sSlipsExtra, [], []⟩
def dSlipsMissing : DefM := ⟨fun K => getterOf K "Slips" "missing", "missing", "Slips.missing", defArgs sSlipsMissing, defBody sSlipsMissing, defScope sSlipsMissing, [], []⟩
def dSlipsWrong : DefM := ⟨fun K => getterOf K "Slips" "wrong", "wrong", "Slips.wrong", defArgs sSlipsWrong, defBody sSlipsWrong, defScope sSlipsWrong, [], []⟩
def dSlipsSwapped : DefM := ⟨fun K => getterOf K "Slips" "swapped", "swapped", "Slips.swapped", defArgs sSlipsSwapped, defBody sSlipsSwapped, defScope sSlipsSwapped, [], []⟩
def dSpellerInit : DefM := ⟨fun K => He.ma K (He.ga K "Speller") "__init__", "__init__", "Speller.__init__", defArgs sSpellerInit, defBody sSpellerInit, defScope sSpellerInit, [.non], []⟩
def dSpellerEntries : DefM := ⟨fun K => getterOf K "Speller" "entries", "entries", "Speller.entries", defArgs sSpellerEntries, defBody sSpellerEntries, defScope sSpellerEntries, [], []⟩
def dSpellerSlips : DefM := ⟨fun K => getterOf K "Speller" "slips", "slips", "Speller.slips", defArgs sSpellerSlips, defBody sSpellerSlips, defScope sSpellerSlips, [], []⟩
def dListenerInit : DefM := ⟨fun K => He.ma K (He.ga K "Listener") "__init__", "__init__", "Listener.__init__", defArgs sListenerInit, defBody sListenerInit, defScope sListenerInit, [], []⟩
def dListenerSpeller : DefM := ⟨fun K => getterOf K "Listener" "speller", "speller", "Listener.speller", defArgs sListenerSpeller, defBody sListenerSpeller, defScope sListenerSpeller, [], []⟩
def dListenerLimit : DefM := ⟨fun K => getterOf K "Listener" "limit", "limit", "Listener.limit", defArgs sListenerLimit, defBody sListenerLimit, defScope sListenerLimit, [], []⟩
def dListenerCall : DefM := ⟨fun K => He.ma K (He.ga K "Listener") "__call__", "__call__", "Listener.__call__", defArgs sListenerCall, defBody sListenerCall, defScope sListenerCall, [], []⟩
def dMachineInit : DefM := ⟨fun K => He.ma K (He.ga K "Machine") "__init__", "__init__", "Machine.__init__", defArgs sMachineInit, defBody sMachineInit, defScope sMachineInit, [], []⟩
def dMachineRows : DefM := ⟨fun K => getterOf K "Machine" "rows", "rows", "Machine.rows", defArgs sMachineRows, defBody sMachineRows, defScope sMachineRows, [], []⟩
def fn0 : List DefM := [dIsInteger, dIsText, dIsLetter, dIsWord, dIsPrice, dNeedText, dLettersOf, dIsRow, dIsState, dNextWorths, dStepped, dLeastTotal, dFirstHeard, dHeardStep, dHeardWord, dHeardState, dIsHeardState, dNeedHeard, dHeardAfter, dHeard]
def fn1 : List DefM := [dIsMachineRow, dNeedMost, dKnownLetters, dTriedLetters, dSigns, dFirstState, dStepOn, dAnswerAt, dWalks, dGoalsByLetter, dGroupsOf, dSmallest, dIsOwn, dIsEntry, dNeedEntries, dGoalsOf, dLeastTexts, dLowest, dEdgesOf, dRingIn]
def fn2 : List DefM := [dImproved, dWorthsOrRing, dRate, dLBegin, dLTake, dLPick, dLLetters, dLString, dLPrices, dLCase, dLSlips, dLSpeller, dLOtherLetter, dLText, dLAlphabet, dLReach, dLPower, dLSmall, dLLimit, dLListener]
def fn3 : List DefM := [dLTold, dLRows, dLChanges, dLLong, dLStep, dLStands, dLNear, dLWide, dLaw, dSlipsInit, dSlipsExtra, dSlipsMissing, dSlipsWrong, dSlipsSwapped, dSpellerInit, dSpellerEntries, dSpellerSlips, dListenerInit, dListenerSpeller, dListenerLimit]
def fn4 : List DefM := [dListenerCall, dMachineInit, dMachineRows]
def fn : List DefM := fn0 ++ fn1 ++ fn2 ++ fn3 ++ fn4
def fa0 : List He.Fa := [.glo "is_integer", .glo "is_text", .glo "is_letter", .glo "is_word", .glo "is_price", .glo "need_text", .glo "letters_of", .glo "is_row", .glo "is_state", .glo "next_worths", .glo "stepped", .glo "least_total", .glo "first_heard", .glo "heard_step", .glo "heard_word", .glo "heard_state", .glo "is_heard_state", .glo "need_heard", .glo "heard_after", .glo "heard"]
def fa1 : List He.Fa := [.glo "is_machine_row", .glo "need_most", .glo "known_letters", .glo "tried_letters", .glo "signs", .glo "first_state", .glo "step_on", .glo "answer_at", .glo "walks", .glo "goals_by_letter", .glo "groups_of", .glo "smallest", .glo "is_own", .glo "is_entry", .glo "need_entries", .glo "goals_of", .glo "least_texts", .glo "lowest", .glo "edges_of", .glo "ring_in"]
def fa2 : List He.Fa := [.glo "improved", .glo "worths_or_ring", .glo "rate", .glo "_law_begin", .glo "_law_take", .glo "_law_pick", .glo "_law_letters", .glo "_law_string", .glo "_law_prices", .glo "_law_case", .glo "_law_slips", .glo "_law_speller", .glo "_law_other_letter", .glo "_law_text", .glo "_law_alphabet", .glo "_law_reach", .glo "_law_power", .glo "_law_small", .glo "_law_limit", .glo "_law_listener"]
def fa3 : List He.Fa := [.glo "_law_told", .glo "_law_rows", .glo "_law_changes", .glo "_law_long", .glo "_law_step", .glo "_law_stands", .glo "_law_near", .glo "_law_wide", .glo "law", .glo "Slips", .glo "Speller", .glo "Listener", .glo "Machine", .free "len", .free "isinstance", .free "int", .free "str", .free "tuple", .free "list", .free "bool"]
def fa4 : List He.Fa := [.free "all", .free "sorted", .free "set", .free "range", .free "enumerate", .free "zip", .free "min", .free "max", .free "dict", .free "abs", .free "divmod", .free "sum", .int "LONGEST" 5, .int "DEAREST" 9, .int "MOST_LIMIT" 9999, .int "MOST_ROWS" 20000, .int "MOST_WORDS" 4, .int "DEAREST_OWN" 999, .str "LETTERS" "abcdefghijklmnopqrstuvwxyz", .cls "Slips"]
def fa5 : List He.Fa := [.mkr "Slips", .noat "Slips" "z_extra", .noat "Slips" "z_missing", .noat "Slips" "z_wrong", .noat "Slips" "z_swapped", .cls "Speller", .mkr "Speller", .noat "Speller" "e_entries", .noat "Speller" "e_slips", .cls "Listener", .mkr "Listener", .noat "Listener" "h_speller", .noat "Listener" "h_limit", .cls "Machine", .mkr "Machine", .noat "Machine" "m_rows"]
def fa : List He.Fa := fa0 ++ fa1 ++ fa2 ++ fa3 ++ fa4 ++ fa5
def exs : List (PySem.W.Frag → Bool) := [fun K => propB K "Slips" "extra", fun K => propB K "Slips" "missing", fun K => propB K "Slips" "wrong", fun K => propB K "Slips" "swapped", fun K => propB K "Speller" "entries", fun K => propB K "Speller" "slips", fun K => propB K "Listener" "speller", fun K => propB K "Listener" "limit", fun K => propB K "Machine" "rows", fun K => callB K "Listener", fun K => kitB2 K "Listener" "Machine" false, fun K => kitB2 K "Listener" "Listener" true, fun K => insB K "Listener", fun K => objB K]
def ex (K : PySem.W.Frag) : Bool := exs.all fun f => f K
/-- what stands behind the top -/
structure Txt (K : PySem.W.Frag) (mg : Str → Option Value) : Prop where
  says : SaysM fa fn ex K
  kin : ∃ h : Heap, K.In h ∧ h.Ns mainGlobals mg
theorem Txt.glo {K : PySem.W.Frag} {mg : Str → Option Value} (T : Txt K mg) (i : Nat) {x : Str} (h : fa[i]? = some (.glo x)) : mg x = some (.ref (He.ga K x)) :=
  let ⟨_, X, G⟩ := T.kin; He.glo_ok X G (T.says.fact i h)
theorem Txt.free {K : PySem.W.Frag} {mg : Str → Option Value} (T : Txt K mg) (i : Nat) {x : Str} (h : fa[i]? = some (.free x)) : mg x = none :=
  let ⟨_, X, G⟩ := T.kin; He.free_ok X G (T.says.fact i h)
theorem Txt.int {K : PySem.W.Frag} {mg : Str → Option Value} (T : Txt K mg) (i : Nat) {x : Str} {n : Int} (h : fa[i]? = some (.int x n)) : ∃ u, mg x = some u ∧ RelV (.int n) u :=
  let ⟨_, X, G⟩ := T.kin; let ⟨t, e⟩ := He.int_ok X G (T.says.fact i h); ⟨_, e, t, rfl⟩
theorem Txt.str {K : PySem.W.Frag} {mg : Str → Option Value} (T : Txt K mg) (i : Nat) {x z : Str} (h : fa[i]? = some (.str x z)) : ∃ u, mg x = some u ∧ RelV (.str z) u :=
  let ⟨_, X, G⟩ := T.kin; let ⟨t, e⟩ := He.str_ok X G (T.says.fact i h); ⟨_, e, t, rfl⟩
theorem Txt.ex1 {K : PySem.W.Frag} {mg : Str → Option Value} (T : Txt K mg) (i : Nat) {f : PySem.W.Frag → Bool} (h : exs[i]? = some f) : f K = true :=
  List.all_eq_true.mp (show (exs.all fun f => f K) = true from T.says.more) f (List.mem_of_getElem? h)
section
variable {K : PySem.W.Frag} {mg : Str → Option Value}
theorem gIsInteger (T : Txt K mg) : mg "is_integer" = some (.ref (He.ga K "is_integer")) := T.glo 0 rfl
theorem gIsText (T : Txt K mg) : mg "is_text" = some (.ref (He.ga K "is_text")) := T.glo 1 rfl
theorem gIsLetter (T : Txt K mg) : mg "is_letter" = some (.ref (He.ga K "is_letter")) := T.glo 2 rfl
theorem gIsWord (T : Txt K mg) : mg "is_word" = some (.ref (He.ga K "is_word")) := T.glo 3 rfl
theorem gIsPrice (T : Txt K mg) : mg "is_price" = some (.ref (He.ga K "is_price")) := T.glo 4 rfl
theorem gNeedText (T : Txt K mg) : mg "need_text" = some (.ref (He.ga K "need_text")) := T.glo 5 rfl
theorem gLettersOf (T : Txt K mg) : mg "letters_of" = some (.ref (He.ga K "letters_of")) := T.glo 6 rfl
theorem gIsRow (T : Txt K mg) : mg "is_row" = some (.ref (He.ga K "is_row")) := T.glo 7 rfl
theorem gIsState (T : Txt K mg) : mg "is_state" = some (.ref (He.ga K "is_state")) := T.glo 8 rfl
theorem gNextWorths (T : Txt K mg) : mg "next_worths" = some (.ref (He.ga K "next_worths")) := T.glo 9 rfl
theorem gStepped (T : Txt K mg) : mg "stepped" = some (.ref (He.ga K "stepped")) := T.glo 10 rfl
theorem gLeastTotal (T : Txt K mg) : mg "least_total" = some (.ref (He.ga K "least_total")) := T.glo 11 rfl
theorem gFirstHeard (T : Txt K mg) : mg "first_heard" = some (.ref (He.ga K "first_heard")) := T.glo 12 rfl
theorem gHeardStep (T : Txt K mg) : mg "heard_step" = some (.ref (He.ga K "heard_step")) := T.glo 13 rfl
theorem gHeardWord (T : Txt K mg) : mg "heard_word" = some (.ref (He.ga K "heard_word")) := T.glo 14 rfl
theorem gHeardState (T : Txt K mg) : mg "heard_state" = some (.ref (He.ga K "heard_state")) := T.glo 15 rfl
theorem gIsHeardState (T : Txt K mg) : mg "is_heard_state" = some (.ref (He.ga K "is_heard_state")) := T.glo 16 rfl
theorem gNeedHeard (T : Txt K mg) : mg "need_heard" = some (.ref (He.ga K "need_heard")) := T.glo 17 rfl
theorem gHeardAfter (T : Txt K mg) : mg "heard_after" = some (.ref (He.ga K "heard_after")) := T.glo 18 rfl
theorem gHeard (T : Txt K mg) : mg "heard" = some (.ref (He.ga K "heard")) := T.glo 19 rfl
theorem gIsMachineRow (T : Txt K mg) : mg "is_machine_row" = some (.ref (He.ga K "is_machine_row")) := T.glo 20 rfl
theorem gNeedMost (T : Txt K mg) : mg "need_most" = some (.ref (He.ga K "need_most")) := T.glo 21 rfl
theorem gKnownLetters (T : Txt K mg) : mg "known_letters" = some (.ref (He.ga K "known_letters")) := T.glo 22 rfl
theorem gTriedLetters (T : Txt K mg) : mg "tried_letters" = some (.ref (He.ga K "tried_letters")) := T.glo 23 rfl
theorem gSigns (T : Txt K mg) : mg "signs" = some (.ref (He.ga K "signs")) := T.glo 24 rfl
theorem gFirstState (T : Txt K mg) : mg "first_state" = some (.ref (He.ga K "first_state")) := T.glo 25 rfl
theorem gStepOn (T : Txt K mg) : mg "step_on" = some (.ref (He.ga K "step_on")) := T.glo 26 rfl
theorem gAnswerAt (T : Txt K mg) : mg "answer_at" = some (.ref (He.ga K "answer_at")) := T.glo 27 rfl
theorem gWalks (T : Txt K mg) : mg "walks" = some (.ref (He.ga K "walks")) := T.glo 28 rfl
theorem gGoalsByLetter (T : Txt K mg) : mg "goals_by_letter" = some (.ref (He.ga K "goals_by_letter")) := T.glo 29 rfl
theorem gGroupsOf (T : Txt K mg) : mg "groups_of" = some (.ref (He.ga K "groups_of")) := T.glo 30 rfl
theorem gSmallest (T : Txt K mg) : mg "smallest" = some (.ref (He.ga K "smallest")) := T.glo 31 rfl
theorem gIsOwn (T : Txt K mg) : mg "is_own" = some (.ref (He.ga K "is_own")) := T.glo 32 rfl
theorem gIsEntry (T : Txt K mg) : mg "is_entry" = some (.ref (He.ga K "is_entry")) := T.glo 33 rfl
theorem gNeedEntries (T : Txt K mg) : mg "need_entries" = some (.ref (He.ga K "need_entries")) := T.glo 34 rfl
theorem gGoalsOf (T : Txt K mg) : mg "goals_of" = some (.ref (He.ga K "goals_of")) := T.glo 35 rfl
theorem gLeastTexts (T : Txt K mg) : mg "least_texts" = some (.ref (He.ga K "least_texts")) := T.glo 36 rfl
theorem gLowest (T : Txt K mg) : mg "lowest" = some (.ref (He.ga K "lowest")) := T.glo 37 rfl
theorem gEdgesOf (T : Txt K mg) : mg "edges_of" = some (.ref (He.ga K "edges_of")) := T.glo 38 rfl
theorem gRingIn (T : Txt K mg) : mg "ring_in" = some (.ref (He.ga K "ring_in")) := T.glo 39 rfl
theorem gImproved (T : Txt K mg) : mg "improved" = some (.ref (He.ga K "improved")) := T.glo 40 rfl
theorem gWorthsOrRing (T : Txt K mg) : mg "worths_or_ring" = some (.ref (He.ga K "worths_or_ring")) := T.glo 41 rfl
theorem gRate (T : Txt K mg) : mg "rate" = some (.ref (He.ga K "rate")) := T.glo 42 rfl
theorem gLBegin (T : Txt K mg) : mg "_law_begin" = some (.ref (He.ga K "_law_begin")) := T.glo 43 rfl
theorem gLTake (T : Txt K mg) : mg "_law_take" = some (.ref (He.ga K "_law_take")) := T.glo 44 rfl
theorem gLPick (T : Txt K mg) : mg "_law_pick" = some (.ref (He.ga K "_law_pick")) := T.glo 45 rfl
theorem gLLetters (T : Txt K mg) : mg "_law_letters" = some (.ref (He.ga K "_law_letters")) := T.glo 46 rfl
theorem gLString (T : Txt K mg) : mg "_law_string" = some (.ref (He.ga K "_law_string")) := T.glo 47 rfl
theorem gLPrices (T : Txt K mg) : mg "_law_prices" = some (.ref (He.ga K "_law_prices")) := T.glo 48 rfl
theorem gLCase (T : Txt K mg) : mg "_law_case" = some (.ref (He.ga K "_law_case")) := T.glo 49 rfl
theorem gLSlips (T : Txt K mg) : mg "_law_slips" = some (.ref (He.ga K "_law_slips")) := T.glo 50 rfl
theorem gLSpeller (T : Txt K mg) : mg "_law_speller" = some (.ref (He.ga K "_law_speller")) := T.glo 51 rfl
theorem gLOtherLetter (T : Txt K mg) : mg "_law_other_letter" = some (.ref (He.ga K "_law_other_letter")) := T.glo 52 rfl
theorem gLText (T : Txt K mg) : mg "_law_text" = some (.ref (He.ga K "_law_text")) := T.glo 53 rfl
theorem gLAlphabet (T : Txt K mg) : mg "_law_alphabet" = some (.ref (He.ga K "_law_alphabet")) := T.glo 54 rfl
theorem gLReach (T : Txt K mg) : mg "_law_reach" = some (.ref (He.ga K "_law_reach")) := T.glo 55 rfl
theorem gLPower (T : Txt K mg) : mg "_law_power" = some (.ref (He.ga K "_law_power")) := T.glo 56 rfl
theorem gLSmall (T : Txt K mg) : mg "_law_small" = some (.ref (He.ga K "_law_small")) := T.glo 57 rfl
theorem gLLimit (T : Txt K mg) : mg "_law_limit" = some (.ref (He.ga K "_law_limit")) := T.glo 58 rfl
theorem gLListener (T : Txt K mg) : mg "_law_listener" = some (.ref (He.ga K "_law_listener")) := T.glo 59 rfl
theorem gLTold (T : Txt K mg) : mg "_law_told" = some (.ref (He.ga K "_law_told")) := T.glo 60 rfl
theorem gLRows (T : Txt K mg) : mg "_law_rows" = some (.ref (He.ga K "_law_rows")) := T.glo 61 rfl
theorem gLChanges (T : Txt K mg) : mg "_law_changes" = some (.ref (He.ga K "_law_changes")) := T.glo 62 rfl
theorem gLLong (T : Txt K mg) : mg "_law_long" = some (.ref (He.ga K "_law_long")) := T.glo 63 rfl
theorem gLStep (T : Txt K mg) : mg "_law_step" = some (.ref (He.ga K "_law_step")) := T.glo 64 rfl
theorem gLStands (T : Txt K mg) : mg "_law_stands" = some (.ref (He.ga K "_law_stands")) := T.glo 65 rfl
theorem gLNear (T : Txt K mg) : mg "_law_near" = some (.ref (He.ga K "_law_near")) := T.glo 66 rfl
theorem gLWide (T : Txt K mg) : mg "_law_wide" = some (.ref (He.ga K "_law_wide")) := T.glo 67 rfl
theorem gLaw (T : Txt K mg) : mg "law" = some (.ref (He.ga K "law")) := T.glo 68 rfl
theorem gSlips (T : Txt K mg) : mg "Slips" = some (.ref (He.ga K "Slips")) := T.glo 69 rfl
theorem gSpeller (T : Txt K mg) : mg "Speller" = some (.ref (He.ga K "Speller")) := T.glo 70 rfl
theorem gListener (T : Txt K mg) : mg "Listener" = some (.ref (He.ga K "Listener")) := T.glo 71 rfl
theorem gMachine (T : Txt K mg) : mg "Machine" = some (.ref (He.ga K "Machine")) := T.glo 72 rfl
theorem f_len (T : Txt K mg) : mg "len" = none := T.free 73 rfl
theorem f_isinstance (T : Txt K mg) : mg "isinstance" = none := T.free 74 rfl
theorem f_int (T : Txt K mg) : mg "int" = none := T.free 75 rfl
theorem f_str (T : Txt K mg) : mg "str" = none := T.free 76 rfl
theorem f_tuple (T : Txt K mg) : mg "tuple" = none := T.free 77 rfl
theorem f_list (T : Txt K mg) : mg "list" = none := T.free 78 rfl
theorem f_bool (T : Txt K mg) : mg "bool" = none := T.free 79 rfl
theorem f_all (T : Txt K mg) : mg "all" = none := T.free 80 rfl
theorem f_sorted (T : Txt K mg) : mg "sorted" = none := T.free 81 rfl
theorem f_set (T : Txt K mg) : mg "set" = none := T.free 82 rfl
theorem f_range (T : Txt K mg) : mg "range" = none := T.free 83 rfl
theorem f_enumerate (T : Txt K mg) : mg "enumerate" = none := T.free 84 rfl
theorem f_zip (T : Txt K mg) : mg "zip" = none := T.free 85 rfl
theorem f_min (T : Txt K mg) : mg "min" = none := T.free 86 rfl
theorem f_max (T : Txt K mg) : mg "max" = none := T.free 87 rfl
theorem f_dict (T : Txt K mg) : mg "dict" = none := T.free 88 rfl
theorem f_abs (T : Txt K mg) : mg "abs" = none := T.free 89 rfl
theorem f_divmod (T : Txt K mg) : mg "divmod" = none := T.free 90 rfl
theorem f_sum (T : Txt K mg) : mg "sum" = none := T.free 91 rfl
theorem c_LONGEST (T : Txt K mg) : ∃ u, mg "LONGEST" = some u ∧ RelV (.int 5) u := T.int 92 rfl
theorem c_DEAREST (T : Txt K mg) : ∃ u, mg "DEAREST" = some u ∧ RelV (.int 9) u := T.int 93 rfl
theorem c_MOST_LIMIT (T : Txt K mg) : ∃ u, mg "MOST_LIMIT" = some u ∧ RelV (.int 9999) u := T.int 94 rfl
theorem c_MOST_ROWS (T : Txt K mg) : ∃ u, mg "MOST_ROWS" = some u ∧ RelV (.int 20000) u := T.int 95 rfl
theorem c_MOST_WORDS (T : Txt K mg) : ∃ u, mg "MOST_WORDS" = some u ∧ RelV (.int 4) u := T.int 96 rfl
theorem c_DEAREST_OWN (T : Txt K mg) : ∃ u, mg "DEAREST_OWN" = some u ∧ RelV (.int 999) u := T.int 97 rfl
theorem c_LETTERS (T : Txt K mg) : ∃ u, mg "LETTERS" = some u ∧ RelV (.str "abcdefghijklmnopqrstuvwxyz") u := T.str 98 rfl
theorem clsSlips (T : Txt K mg) : Cls K (He.ga K "Slips") := He.cls_ok (T.says.fact 99 rfl)
theorem mkrSlips (T : Txt K mg) : Mk K (He.ga K "Slips") (He.ma K (He.ga K "Slips") "__init__") := He.mkr_ok (T.says.fact 100 rfl)
theorem no_z_extra (T : Txt K mg) : NoAttr K (He.ga K "Slips") "z_extra" := He.noat_ok (T.says.fact 101 rfl)
theorem no_z_missing (T : Txt K mg) : NoAttr K (He.ga K "Slips") "z_missing" := He.noat_ok (T.says.fact 102 rfl)
theorem no_z_wrong (T : Txt K mg) : NoAttr K (He.ga K "Slips") "z_wrong" := He.noat_ok (T.says.fact 103 rfl)
theorem no_z_swapped (T : Txt K mg) : NoAttr K (He.ga K "Slips") "z_swapped" := He.noat_ok (T.says.fact 104 rfl)
theorem clsSpeller (T : Txt K mg) : Cls K (He.ga K "Speller") := He.cls_ok (T.says.fact 105 rfl)
theorem mkrSpeller (T : Txt K mg) : Mk K (He.ga K "Speller") (He.ma K (He.ga K "Speller") "__init__") := He.mkr_ok (T.says.fact 106 rfl)
theorem no_e_entries (T : Txt K mg) : NoAttr K (He.ga K "Speller") "e_entries" := He.noat_ok (T.says.fact 107 rfl)
theorem no_e_slips (T : Txt K mg) : NoAttr K (He.ga K "Speller") "e_slips" := He.noat_ok (T.says.fact 108 rfl)
theorem clsListener (T : Txt K mg) : Cls K (He.ga K "Listener") := He.cls_ok (T.says.fact 109 rfl)
theorem mkrListener (T : Txt K mg) : Mk K (He.ga K "Listener") (He.ma K (He.ga K "Listener") "__init__") := He.mkr_ok (T.says.fact 110 rfl)
theorem no_h_speller (T : Txt K mg) : NoAttr K (He.ga K "Listener") "h_speller" := He.noat_ok (T.says.fact 111 rfl)
theorem no_h_limit (T : Txt K mg) : NoAttr K (He.ga K "Listener") "h_limit" := He.noat_ok (T.says.fact 112 rfl)
theorem clsMachine (T : Txt K mg) : Cls K (He.ga K "Machine") := He.cls_ok (T.says.fact 113 rfl)
theorem mkrMachine (T : Txt K mg) : Mk K (He.ga K "Machine") (He.ma K (He.ga K "Machine") "__init__") := He.mkr_ok (T.says.fact 114 rfl)
theorem no_m_rows (T : Txt K mg) : NoAttr K (He.ga K "Machine") "m_rows" := He.noat_ok (T.says.fact 115 rfl)
theorem propSlipsExtra (T : Txt K mg) : PropOf K (He.ga K "Slips") "extra" (He.ma K (He.ga K "Slips") "extra") (getterOf K "Slips" "extra") := propB_ok (T.ex1 0 rfl)
theorem propSlipsMissing (T : Txt K mg) : PropOf K (He.ga K "Slips") "missing" (He.ma K (He.ga K "Slips") "missing") (getterOf K "Slips" "missing") := propB_ok (T.ex1 1 rfl)
theorem propSlipsWrong (T : Txt K mg) : PropOf K (He.ga K "Slips") "wrong" (He.ma K (He.ga K "Slips") "wrong") (getterOf K "Slips" "wrong") := propB_ok (T.ex1 2 rfl)
theorem propSlipsSwapped (T : Txt K mg) : PropOf K (He.ga K "Slips") "swapped" (He.ma K (He.ga K "Slips") "swapped") (getterOf K "Slips" "swapped") := propB_ok (T.ex1 3 rfl)
theorem propSpellerEntries (T : Txt K mg) : PropOf K (He.ga K "Speller") "entries" (He.ma K (He.ga K "Speller") "entries") (getterOf K "Speller" "entries") := propB_ok (T.ex1 4 rfl)
theorem propSpellerSlips (T : Txt K mg) : PropOf K (He.ga K "Speller") "slips" (He.ma K (He.ga K "Speller") "slips") (getterOf K "Speller" "slips") := propB_ok (T.ex1 5 rfl)
theorem propListenerSpeller (T : Txt K mg) : PropOf K (He.ga K "Listener") "speller" (He.ma K (He.ga K "Listener") "speller") (getterOf K "Listener" "speller") := propB_ok (T.ex1 6 rfl)
theorem propListenerLimit (T : Txt K mg) : PropOf K (He.ga K "Listener") "limit" (He.ma K (He.ga K "Listener") "limit") (getterOf K "Listener" "limit") := propB_ok (T.ex1 7 rfl)
theorem propMachineRows (T : Txt K mg) : PropOf K (He.ga K "Machine") "rows" (He.ma K (He.ga K "Machine") "rows") (getterOf K "Machine" "rows") := propB_ok (T.ex1 8 rfl)
theorem callListener (T : Txt K mg) : StX.CallO K (He.ga K "Listener") (He.ma K (He.ga K "Listener") "__call__") := callB_ok (T.ex1 9 rfl)
theorem kitLM (T : Txt K mg) : PySem.W.kitOne K (.ref (He.ga K "Listener")) (.ref (He.ga K "Machine")) = some false := of_decide_eq_true (T.ex1 10 rfl)
theorem kitLL (T : Txt K mg) : PySem.W.kitOne K (.ref (He.ga K "Listener")) (.ref (He.ga K "Listener")) = some true := of_decide_eq_true (T.ex1 11 rfl)
theorem tyListener (T : Txt K mg) {H : Hp} {a dx : Addr} {fs : List (Str × V)} (e : H a = some (.ins (He.ga K "Listener") dx fs)) : TyX K H (.ref a) (.ref (He.ga K "Listener")) := by
  obtain ⟨h1, h2⟩ := He.ba (T.ex1 (f := fun K => insB K "Listener") 12 rfl)
  obtain ⟨h3, h4⟩ := He.ba (T.ex1 (f := fun K => objB K) 13 rfl)
  exact .base (.ins e (clsListener T) (He.eqO_ok h1) (He.eqO_ok h3) (of_decide_eq_true h4) (of_decide_eq_true h2))
theorem dIsInteger_fn (T : Txt K mg) : ∃ fd, FunD K dIsInteger.name dIsInteger.qual dIsInteger.params dIsInteger.body dIsInteger.scope (dIsInteger.dvs K) (dIsInteger.kws K) (dIsInteger.adr K) fd := T.says.def_ 0 rfl
theorem dIsText_fn (T : Txt K mg) : ∃ fd, FunD K dIsText.name dIsText.qual dIsText.params dIsText.body dIsText.scope (dIsText.dvs K) (dIsText.kws K) (dIsText.adr K) fd := T.says.def_ 1 rfl
theorem dIsLetter_fn (T : Txt K mg) : ∃ fd, FunD K dIsLetter.name dIsLetter.qual dIsLetter.params dIsLetter.body dIsLetter.scope (dIsLetter.dvs K) (dIsLetter.kws K) (dIsLetter.adr K) fd := T.says.def_ 2 rfl
theorem dIsWord_fn (T : Txt K mg) : ∃ fd, FunD K dIsWord.name dIsWord.qual dIsWord.params dIsWord.body dIsWord.scope (dIsWord.dvs K) (dIsWord.kws K) (dIsWord.adr K) fd := T.says.def_ 3 rfl
theorem dIsPrice_fn (T : Txt K mg) : ∃ fd, FunD K dIsPrice.name dIsPrice.qual dIsPrice.params dIsPrice.body dIsPrice.scope (dIsPrice.dvs K) (dIsPrice.kws K) (dIsPrice.adr K) fd := T.says.def_ 4 rfl
theorem dNeedText_fn (T : Txt K mg) : ∃ fd, FunD K dNeedText.name dNeedText.qual dNeedText.params dNeedText.body dNeedText.scope (dNeedText.dvs K) (dNeedText.kws K) (dNeedText.adr K) fd := T.says.def_ 5 rfl
theorem dLettersOf_fn (T : Txt K mg) : ∃ fd, FunD K dLettersOf.name dLettersOf.qual dLettersOf.params dLettersOf.body dLettersOf.scope (dLettersOf.dvs K) (dLettersOf.kws K) (dLettersOf.adr K) fd := T.says.def_ 6 rfl
theorem dIsRow_fn (T : Txt K mg) : ∃ fd, FunD K dIsRow.name dIsRow.qual dIsRow.params dIsRow.body dIsRow.scope (dIsRow.dvs K) (dIsRow.kws K) (dIsRow.adr K) fd := T.says.def_ 7 rfl
theorem dIsState_fn (T : Txt K mg) : ∃ fd, FunD K dIsState.name dIsState.qual dIsState.params dIsState.body dIsState.scope (dIsState.dvs K) (dIsState.kws K) (dIsState.adr K) fd := T.says.def_ 8 rfl
theorem dNextWorths_fn (T : Txt K mg) : ∃ fd, FunD K dNextWorths.name dNextWorths.qual dNextWorths.params dNextWorths.body dNextWorths.scope (dNextWorths.dvs K) (dNextWorths.kws K) (dNextWorths.adr K) fd := T.says.def_ 9 rfl
theorem dStepped_fn (T : Txt K mg) : ∃ fd, FunD K dStepped.name dStepped.qual dStepped.params dStepped.body dStepped.scope (dStepped.dvs K) (dStepped.kws K) (dStepped.adr K) fd := T.says.def_ 10 rfl
theorem dLeastTotal_fn (T : Txt K mg) : ∃ fd, FunD K dLeastTotal.name dLeastTotal.qual dLeastTotal.params dLeastTotal.body dLeastTotal.scope (dLeastTotal.dvs K) (dLeastTotal.kws K) (dLeastTotal.adr K) fd := T.says.def_ 11 rfl
theorem dFirstHeard_fn (T : Txt K mg) : ∃ fd, FunD K dFirstHeard.name dFirstHeard.qual dFirstHeard.params dFirstHeard.body dFirstHeard.scope (dFirstHeard.dvs K) (dFirstHeard.kws K) (dFirstHeard.adr K) fd := T.says.def_ 12 rfl
theorem dHeardStep_fn (T : Txt K mg) : ∃ fd, FunD K dHeardStep.name dHeardStep.qual dHeardStep.params dHeardStep.body dHeardStep.scope (dHeardStep.dvs K) (dHeardStep.kws K) (dHeardStep.adr K) fd := T.says.def_ 13 rfl
theorem dHeardWord_fn (T : Txt K mg) : ∃ fd, FunD K dHeardWord.name dHeardWord.qual dHeardWord.params dHeardWord.body dHeardWord.scope (dHeardWord.dvs K) (dHeardWord.kws K) (dHeardWord.adr K) fd := T.says.def_ 14 rfl
theorem dHeardState_fn (T : Txt K mg) : ∃ fd, FunD K dHeardState.name dHeardState.qual dHeardState.params dHeardState.body dHeardState.scope (dHeardState.dvs K) (dHeardState.kws K) (dHeardState.adr K) fd := T.says.def_ 15 rfl
theorem dIsHeardState_fn (T : Txt K mg) : ∃ fd, FunD K dIsHeardState.name dIsHeardState.qual dIsHeardState.params dIsHeardState.body dIsHeardState.scope (dIsHeardState.dvs K) (dIsHeardState.kws K) (dIsHeardState.adr K) fd := T.says.def_ 16 rfl
theorem dNeedHeard_fn (T : Txt K mg) : ∃ fd, FunD K dNeedHeard.name dNeedHeard.qual dNeedHeard.params dNeedHeard.body dNeedHeard.scope (dNeedHeard.dvs K) (dNeedHeard.kws K) (dNeedHeard.adr K) fd := T.says.def_ 17 rfl
theorem dHeardAfter_fn (T : Txt K mg) : ∃ fd, FunD K dHeardAfter.name dHeardAfter.qual dHeardAfter.params dHeardAfter.body dHeardAfter.scope (dHeardAfter.dvs K) (dHeardAfter.kws K) (dHeardAfter.adr K) fd := T.says.def_ 18 rfl
theorem dHeard_fn (T : Txt K mg) : ∃ fd, FunD K dHeard.name dHeard.qual dHeard.params dHeard.body dHeard.scope (dHeard.dvs K) (dHeard.kws K) (dHeard.adr K) fd := T.says.def_ 19 rfl
theorem dIsMachineRow_fn (T : Txt K mg) : ∃ fd, FunD K dIsMachineRow.name dIsMachineRow.qual dIsMachineRow.params dIsMachineRow.body dIsMachineRow.scope (dIsMachineRow.dvs K) (dIsMachineRow.kws K) (dIsMachineRow.adr K) fd := T.says.def_ 20 rfl
theorem dNeedMost_fn (T : Txt K mg) : ∃ fd, FunD K dNeedMost.name dNeedMost.qual dNeedMost.params dNeedMost.body dNeedMost.scope (dNeedMost.dvs K) (dNeedMost.kws K) (dNeedMost.adr K) fd := T.says.def_ 21 rfl
theorem dKnownLetters_fn (T : Txt K mg) : ∃ fd, FunD K dKnownLetters.name dKnownLetters.qual dKnownLetters.params dKnownLetters.body dKnownLetters.scope (dKnownLetters.dvs K) (dKnownLetters.kws K) (dKnownLetters.adr K) fd := T.says.def_ 22 rfl
theorem dTriedLetters_fn (T : Txt K mg) : ∃ fd, FunD K dTriedLetters.name dTriedLetters.qual dTriedLetters.params dTriedLetters.body dTriedLetters.scope (dTriedLetters.dvs K) (dTriedLetters.kws K) (dTriedLetters.adr K) fd := T.says.def_ 23 rfl
theorem dSigns_fn (T : Txt K mg) : ∃ fd, FunD K dSigns.name dSigns.qual dSigns.params dSigns.body dSigns.scope (dSigns.dvs K) (dSigns.kws K) (dSigns.adr K) fd := T.says.def_ 24 rfl
theorem dFirstState_fn (T : Txt K mg) : ∃ fd, FunD K dFirstState.name dFirstState.qual dFirstState.params dFirstState.body dFirstState.scope (dFirstState.dvs K) (dFirstState.kws K) (dFirstState.adr K) fd := T.says.def_ 25 rfl
theorem dStepOn_fn (T : Txt K mg) : ∃ fd, FunD K dStepOn.name dStepOn.qual dStepOn.params dStepOn.body dStepOn.scope (dStepOn.dvs K) (dStepOn.kws K) (dStepOn.adr K) fd := T.says.def_ 26 rfl
theorem dAnswerAt_fn (T : Txt K mg) : ∃ fd, FunD K dAnswerAt.name dAnswerAt.qual dAnswerAt.params dAnswerAt.body dAnswerAt.scope (dAnswerAt.dvs K) (dAnswerAt.kws K) (dAnswerAt.adr K) fd := T.says.def_ 27 rfl
theorem dWalks_fn (T : Txt K mg) : ∃ fd, FunD K dWalks.name dWalks.qual dWalks.params dWalks.body dWalks.scope (dWalks.dvs K) (dWalks.kws K) (dWalks.adr K) fd := T.says.def_ 28 rfl
theorem dGoalsByLetter_fn (T : Txt K mg) : ∃ fd, FunD K dGoalsByLetter.name dGoalsByLetter.qual dGoalsByLetter.params dGoalsByLetter.body dGoalsByLetter.scope (dGoalsByLetter.dvs K) (dGoalsByLetter.kws K) (dGoalsByLetter.adr K) fd := T.says.def_ 29 rfl
theorem dGroupsOf_fn (T : Txt K mg) : ∃ fd, FunD K dGroupsOf.name dGroupsOf.qual dGroupsOf.params dGroupsOf.body dGroupsOf.scope (dGroupsOf.dvs K) (dGroupsOf.kws K) (dGroupsOf.adr K) fd := T.says.def_ 30 rfl
theorem dSmallest_fn (T : Txt K mg) : ∃ fd, FunD K dSmallest.name dSmallest.qual dSmallest.params dSmallest.body dSmallest.scope (dSmallest.dvs K) (dSmallest.kws K) (dSmallest.adr K) fd := T.says.def_ 31 rfl
theorem dIsOwn_fn (T : Txt K mg) : ∃ fd, FunD K dIsOwn.name dIsOwn.qual dIsOwn.params dIsOwn.body dIsOwn.scope (dIsOwn.dvs K) (dIsOwn.kws K) (dIsOwn.adr K) fd := T.says.def_ 32 rfl
theorem dIsEntry_fn (T : Txt K mg) : ∃ fd, FunD K dIsEntry.name dIsEntry.qual dIsEntry.params dIsEntry.body dIsEntry.scope (dIsEntry.dvs K) (dIsEntry.kws K) (dIsEntry.adr K) fd := T.says.def_ 33 rfl
theorem dNeedEntries_fn (T : Txt K mg) : ∃ fd, FunD K dNeedEntries.name dNeedEntries.qual dNeedEntries.params dNeedEntries.body dNeedEntries.scope (dNeedEntries.dvs K) (dNeedEntries.kws K) (dNeedEntries.adr K) fd := T.says.def_ 34 rfl
theorem dGoalsOf_fn (T : Txt K mg) : ∃ fd, FunD K dGoalsOf.name dGoalsOf.qual dGoalsOf.params dGoalsOf.body dGoalsOf.scope (dGoalsOf.dvs K) (dGoalsOf.kws K) (dGoalsOf.adr K) fd := T.says.def_ 35 rfl
theorem dLeastTexts_fn (T : Txt K mg) : ∃ fd, FunD K dLeastTexts.name dLeastTexts.qual dLeastTexts.params dLeastTexts.body dLeastTexts.scope (dLeastTexts.dvs K) (dLeastTexts.kws K) (dLeastTexts.adr K) fd := T.says.def_ 36 rfl
theorem dLowest_fn (T : Txt K mg) : ∃ fd, FunD K dLowest.name dLowest.qual dLowest.params dLowest.body dLowest.scope (dLowest.dvs K) (dLowest.kws K) (dLowest.adr K) fd := T.says.def_ 37 rfl
theorem dEdgesOf_fn (T : Txt K mg) : ∃ fd, FunD K dEdgesOf.name dEdgesOf.qual dEdgesOf.params dEdgesOf.body dEdgesOf.scope (dEdgesOf.dvs K) (dEdgesOf.kws K) (dEdgesOf.adr K) fd := T.says.def_ 38 rfl
theorem dRingIn_fn (T : Txt K mg) : ∃ fd, FunD K dRingIn.name dRingIn.qual dRingIn.params dRingIn.body dRingIn.scope (dRingIn.dvs K) (dRingIn.kws K) (dRingIn.adr K) fd := T.says.def_ 39 rfl
theorem dImproved_fn (T : Txt K mg) : ∃ fd, FunD K dImproved.name dImproved.qual dImproved.params dImproved.body dImproved.scope (dImproved.dvs K) (dImproved.kws K) (dImproved.adr K) fd := T.says.def_ 40 rfl
theorem dWorthsOrRing_fn (T : Txt K mg) : ∃ fd, FunD K dWorthsOrRing.name dWorthsOrRing.qual dWorthsOrRing.params dWorthsOrRing.body dWorthsOrRing.scope (dWorthsOrRing.dvs K) (dWorthsOrRing.kws K) (dWorthsOrRing.adr K) fd := T.says.def_ 41 rfl
theorem dRate_fn (T : Txt K mg) : ∃ fd, FunD K dRate.name dRate.qual dRate.params dRate.body dRate.scope (dRate.dvs K) (dRate.kws K) (dRate.adr K) fd := T.says.def_ 42 rfl
theorem dLBegin_fn (T : Txt K mg) : ∃ fd, FunD K dLBegin.name dLBegin.qual dLBegin.params dLBegin.body dLBegin.scope (dLBegin.dvs K) (dLBegin.kws K) (dLBegin.adr K) fd := T.says.def_ 43 rfl
theorem dLTake_fn (T : Txt K mg) : ∃ fd, FunD K dLTake.name dLTake.qual dLTake.params dLTake.body dLTake.scope (dLTake.dvs K) (dLTake.kws K) (dLTake.adr K) fd := T.says.def_ 44 rfl
theorem dLPick_fn (T : Txt K mg) : ∃ fd, FunD K dLPick.name dLPick.qual dLPick.params dLPick.body dLPick.scope (dLPick.dvs K) (dLPick.kws K) (dLPick.adr K) fd := T.says.def_ 45 rfl
theorem dLLetters_fn (T : Txt K mg) : ∃ fd, FunD K dLLetters.name dLLetters.qual dLLetters.params dLLetters.body dLLetters.scope (dLLetters.dvs K) (dLLetters.kws K) (dLLetters.adr K) fd := T.says.def_ 46 rfl
theorem dLString_fn (T : Txt K mg) : ∃ fd, FunD K dLString.name dLString.qual dLString.params dLString.body dLString.scope (dLString.dvs K) (dLString.kws K) (dLString.adr K) fd := T.says.def_ 47 rfl
theorem dLPrices_fn (T : Txt K mg) : ∃ fd, FunD K dLPrices.name dLPrices.qual dLPrices.params dLPrices.body dLPrices.scope (dLPrices.dvs K) (dLPrices.kws K) (dLPrices.adr K) fd := T.says.def_ 48 rfl
theorem dLCase_fn (T : Txt K mg) : ∃ fd, FunD K dLCase.name dLCase.qual dLCase.params dLCase.body dLCase.scope (dLCase.dvs K) (dLCase.kws K) (dLCase.adr K) fd := T.says.def_ 49 rfl
theorem dLSlips_fn (T : Txt K mg) : ∃ fd, FunD K dLSlips.name dLSlips.qual dLSlips.params dLSlips.body dLSlips.scope (dLSlips.dvs K) (dLSlips.kws K) (dLSlips.adr K) fd := T.says.def_ 50 rfl
theorem dLSpeller_fn (T : Txt K mg) : ∃ fd, FunD K dLSpeller.name dLSpeller.qual dLSpeller.params dLSpeller.body dLSpeller.scope (dLSpeller.dvs K) (dLSpeller.kws K) (dLSpeller.adr K) fd := T.says.def_ 51 rfl
theorem dLOtherLetter_fn (T : Txt K mg) : ∃ fd, FunD K dLOtherLetter.name dLOtherLetter.qual dLOtherLetter.params dLOtherLetter.body dLOtherLetter.scope (dLOtherLetter.dvs K) (dLOtherLetter.kws K) (dLOtherLetter.adr K) fd := T.says.def_ 52 rfl
theorem dLText_fn (T : Txt K mg) : ∃ fd, FunD K dLText.name dLText.qual dLText.params dLText.body dLText.scope (dLText.dvs K) (dLText.kws K) (dLText.adr K) fd := T.says.def_ 53 rfl
theorem dLAlphabet_fn (T : Txt K mg) : ∃ fd, FunD K dLAlphabet.name dLAlphabet.qual dLAlphabet.params dLAlphabet.body dLAlphabet.scope (dLAlphabet.dvs K) (dLAlphabet.kws K) (dLAlphabet.adr K) fd := T.says.def_ 54 rfl
theorem dLReach_fn (T : Txt K mg) : ∃ fd, FunD K dLReach.name dLReach.qual dLReach.params dLReach.body dLReach.scope (dLReach.dvs K) (dLReach.kws K) (dLReach.adr K) fd := T.says.def_ 55 rfl
theorem dLPower_fn (T : Txt K mg) : ∃ fd, FunD K dLPower.name dLPower.qual dLPower.params dLPower.body dLPower.scope (dLPower.dvs K) (dLPower.kws K) (dLPower.adr K) fd := T.says.def_ 56 rfl
theorem dLSmall_fn (T : Txt K mg) : ∃ fd, FunD K dLSmall.name dLSmall.qual dLSmall.params dLSmall.body dLSmall.scope (dLSmall.dvs K) (dLSmall.kws K) (dLSmall.adr K) fd := T.says.def_ 57 rfl
theorem dLLimit_fn (T : Txt K mg) : ∃ fd, FunD K dLLimit.name dLLimit.qual dLLimit.params dLLimit.body dLLimit.scope (dLLimit.dvs K) (dLLimit.kws K) (dLLimit.adr K) fd := T.says.def_ 58 rfl
theorem dLListener_fn (T : Txt K mg) : ∃ fd, FunD K dLListener.name dLListener.qual dLListener.params dLListener.body dLListener.scope (dLListener.dvs K) (dLListener.kws K) (dLListener.adr K) fd := T.says.def_ 59 rfl
theorem dLTold_fn (T : Txt K mg) : ∃ fd, FunD K dLTold.name dLTold.qual dLTold.params dLTold.body dLTold.scope (dLTold.dvs K) (dLTold.kws K) (dLTold.adr K) fd := T.says.def_ 60 rfl
theorem dLRows_fn (T : Txt K mg) : ∃ fd, FunD K dLRows.name dLRows.qual dLRows.params dLRows.body dLRows.scope (dLRows.dvs K) (dLRows.kws K) (dLRows.adr K) fd := T.says.def_ 61 rfl
theorem dLChanges_fn (T : Txt K mg) : ∃ fd, FunD K dLChanges.name dLChanges.qual dLChanges.params dLChanges.body dLChanges.scope (dLChanges.dvs K) (dLChanges.kws K) (dLChanges.adr K) fd := T.says.def_ 62 rfl
theorem dLLong_fn (T : Txt K mg) : ∃ fd, FunD K dLLong.name dLLong.qual dLLong.params dLLong.body dLLong.scope (dLLong.dvs K) (dLLong.kws K) (dLLong.adr K) fd := T.says.def_ 63 rfl
theorem dLStep_fn (T : Txt K mg) : ∃ fd, FunD K dLStep.name dLStep.qual dLStep.params dLStep.body dLStep.scope (dLStep.dvs K) (dLStep.kws K) (dLStep.adr K) fd := T.says.def_ 64 rfl
theorem dLStands_fn (T : Txt K mg) : ∃ fd, FunD K dLStands.name dLStands.qual dLStands.params dLStands.body dLStands.scope (dLStands.dvs K) (dLStands.kws K) (dLStands.adr K) fd := T.says.def_ 65 rfl
theorem dLNear_fn (T : Txt K mg) : ∃ fd, FunD K dLNear.name dLNear.qual dLNear.params dLNear.body dLNear.scope (dLNear.dvs K) (dLNear.kws K) (dLNear.adr K) fd := T.says.def_ 66 rfl
theorem dLWide_fn (T : Txt K mg) : ∃ fd, FunD K dLWide.name dLWide.qual dLWide.params dLWide.body dLWide.scope (dLWide.dvs K) (dLWide.kws K) (dLWide.adr K) fd := T.says.def_ 67 rfl
theorem dLaw_fn (T : Txt K mg) : ∃ fd, FunD K dLaw.name dLaw.qual dLaw.params dLaw.body dLaw.scope (dLaw.dvs K) (dLaw.kws K) (dLaw.adr K) fd := T.says.def_ 68 rfl
theorem dSlipsInit_fn (T : Txt K mg) : ∃ fd, FunD K dSlipsInit.name dSlipsInit.qual dSlipsInit.params dSlipsInit.body dSlipsInit.scope (dSlipsInit.dvs K) (dSlipsInit.kws K) (dSlipsInit.adr K) fd := T.says.def_ 69 rfl
theorem dSlipsExtra_fn (T : Txt K mg) : ∃ fd, FunD K dSlipsExtra.name dSlipsExtra.qual dSlipsExtra.params dSlipsExtra.body dSlipsExtra.scope (dSlipsExtra.dvs K) (dSlipsExtra.kws K) (dSlipsExtra.adr K) fd := T.says.def_ 70 rfl
theorem dSlipsMissing_fn (T : Txt K mg) : ∃ fd, FunD K dSlipsMissing.name dSlipsMissing.qual dSlipsMissing.params dSlipsMissing.body dSlipsMissing.scope (dSlipsMissing.dvs K) (dSlipsMissing.kws K) (dSlipsMissing.adr K) fd := T.says.def_ 71 rfl
theorem dSlipsWrong_fn (T : Txt K mg) : ∃ fd, FunD K dSlipsWrong.name dSlipsWrong.qual dSlipsWrong.params dSlipsWrong.body dSlipsWrong.scope (dSlipsWrong.dvs K) (dSlipsWrong.kws K) (dSlipsWrong.adr K) fd := T.says.def_ 72 rfl
theorem dSlipsSwapped_fn (T : Txt K mg) : ∃ fd, FunD K dSlipsSwapped.name dSlipsSwapped.qual dSlipsSwapped.params dSlipsSwapped.body dSlipsSwapped.scope (dSlipsSwapped.dvs K) (dSlipsSwapped.kws K) (dSlipsSwapped.adr K) fd := T.says.def_ 73 rfl
theorem dSpellerInit_fn (T : Txt K mg) : ∃ fd, FunD K dSpellerInit.name dSpellerInit.qual dSpellerInit.params dSpellerInit.body dSpellerInit.scope (dSpellerInit.dvs K) (dSpellerInit.kws K) (dSpellerInit.adr K) fd := T.says.def_ 74 rfl
theorem dSpellerEntries_fn (T : Txt K mg) : ∃ fd, FunD K dSpellerEntries.name dSpellerEntries.qual dSpellerEntries.params dSpellerEntries.body dSpellerEntries.scope (dSpellerEntries.dvs K) (dSpellerEntries.kws K) (dSpellerEntries.adr K) fd := T.says.def_ 75 rfl
theorem dSpellerSlips_fn (T : Txt K mg) : ∃ fd, FunD K dSpellerSlips.name dSpellerSlips.qual dSpellerSlips.params dSpellerSlips.body dSpellerSlips.scope (dSpellerSlips.dvs K) (dSpellerSlips.kws K) (dSpellerSlips.adr K) fd := T.says.def_ 76 rfl
theorem dListenerInit_fn (T : Txt K mg) : ∃ fd, FunD K dListenerInit.name dListenerInit.qual dListenerInit.params dListenerInit.body dListenerInit.scope (dListenerInit.dvs K) (dListenerInit.kws K) (dListenerInit.adr K) fd := T.says.def_ 77 rfl
theorem dListenerSpeller_fn (T : Txt K mg) : ∃ fd, FunD K dListenerSpeller.name dListenerSpeller.qual dListenerSpeller.params dListenerSpeller.body dListenerSpeller.scope (dListenerSpeller.dvs K) (dListenerSpeller.kws K) (dListenerSpeller.adr K) fd := T.says.def_ 78 rfl
theorem dListenerLimit_fn (T : Txt K mg) : ∃ fd, FunD K dListenerLimit.name dListenerLimit.qual dListenerLimit.params dListenerLimit.body dListenerLimit.scope (dListenerLimit.dvs K) (dListenerLimit.kws K) (dListenerLimit.adr K) fd := T.says.def_ 79 rfl
theorem dListenerCall_fn (T : Txt K mg) : ∃ fd, FunD K dListenerCall.name dListenerCall.qual dListenerCall.params dListenerCall.body dListenerCall.scope (dListenerCall.dvs K) (dListenerCall.kws K) (dListenerCall.adr K) fd := T.says.def_ 80 rfl
theorem dMachineInit_fn (T : Txt K mg) : ∃ fd, FunD K dMachineInit.name dMachineInit.qual dMachineInit.params dMachineInit.body dMachineInit.scope (dMachineInit.dvs K) (dMachineInit.kws K) (dMachineInit.adr K) fd := T.says.def_ 81 rfl
theorem dMachineRows_fn (T : Txt K mg) : ∃ fd, FunD K dMachineRows.name dMachineRows.qual dMachineRows.params dMachineRows.body dMachineRows.scope (dMachineRows.dvs K) (dMachineRows.kws K) (dMachineRows.adr K) fd := T.says.def_ 82 rfl
end
end Mw


set_option Elab.async false
set_option linter.all false
set_option maxRecDepth 100000
set_option maxHeartbeats 0
namespace Mw
open PySem PySem.Spec PyProof.Rows L2
abbrev R : PySem.W.OpenRow := PySem.W.OpenLaw.row PySem.Challenge.rw_meantword_k71_whole_changes_in_long_stre
def names0 : List PySem.Str := ["_wall", "SpellError", "BadSlips", "BadText", "BadEntry", "NoWord", "Clash", "BadLimit", "BadMachine", "BadState", "BadNumber", "TooMany", "LETTERS", "LONGEST", "DEAREST", "is_integer", "is_text", "is_letter", "is_word", "is_price"]
def names1 : List PySem.Str := ["need_text", "Slips", "last_steps", "step_price", "price_lines", "price", "letters_of", "row_of", "state_of", "first_of", "is_row", "is_state", "next_worths", "stepped", "least_total", "step_of", "word_of", "MOST_LIMIT", "Listener", "first_heard"]
def names2 : List PySem.Str := ["heard_step", "heard_word", "heard_state", "is_heard_state", "need_heard", "heard_after", "heard", "MOST_ROWS", "is_machine_row", "Machine", "need_most", "known_letters", "tried_letters", "signs", "first_state", "step_on", "answer_at", "walks", "goals_by_letter", "groups_of"]
def names3 : List PySem.Str := ["smallest", "MOST_WORDS", "DEAREST_OWN", "is_own", "is_entry", "need_entries", "Speller", "place_of", "ranking_of", "meant_word", "goals_of", "least_texts", "lowest", "edges_of", "ring_in", "improved", "worths_or_ring", "rate", "_law_begin", "_law_take"]
def names4 : List PySem.Str := ["_law_pick", "_law_letters", "_law_string", "_law_prices", "_law_case", "_law_slips", "_law_speller", "_law_other_letter", "_law_text", "_law_alphabet", "_law_reach", "_law_power", "_law_small", "_law_limit", "_law_listener", "_law_told", "_law_rows", "_law_changes", "_law_long", "_law_step"]
def names5 : List PySem.Str := ["_law_stands", "_law_told_at", "_law_near", "_law_wide"]
def names : List PySem.Str := names0 ++ names1 ++ names2 ++ names3 ++ names4 ++ names5
abbrev hk : PySem.W.Hook := hookM fa fn ex
def ob (s : PySem.W.SharedT) : AlM := obsMG fa fn ex (HandSHeadRun.getT s)
theorem ob_eq (s : PySem.W.SharedT) : ob s = hk.obs s.abs := obsMG_eq (HandSHeadRun.getT_eq s)
theorem run (w : World) : HandSHeadRun.RunEq R (PySem.W.view R.prog [112]) hk ob 60000 names w := by
  intro os
  kernel_rfl
end Mw


set_option Elab.async false
set_option linter.all false
set_option maxRecDepth 100000
set_option maxHeartbeats 4000000
namespace Mw
open PySem PySem.Spec PyProof.Rows L2
/-- a text of these codes -/
abbrev tx (l : List Nat) : Str := ⟨l.toArray⟩
theorem tx_len (l : List Nat) : (tx l).length = l.length := by simp [tx, Str.length]
theorem tx_inj {a b : List Nat} (h : tx a = tx b) : a = b := by
  have e := congrArg (fun x : Str => x.cps.toList) h
  simpa [tx] using e
theorem tx_app (a b : List Nat) : tx a ++ tx b = tx (a ++ b) := SX.S_cat a b
theorem tx_of (x : Str) : tx x.cps.toList = x := SX.S_tl x
theorem paired_of_get {α β : Type} {F : α → β → Prop} : ∀ {xs : List α} {ys : List β}, xs.length = ys.length → (∀ (i : Nat) (x : α) (y : β), xs[i]? = some x → ys[i]? = some y → F x y) → Paired F xs ys
  | [], [], _, _ => .nil
  | [], _ :: _, h, _ => by simp at h
  | _ :: _, [], h, _ => by simp at h
  | x :: xs, y :: ys, h, f => .cons (f 0 x y rfl rfl) (paired_of_get (by simpa using h) fun i a b ha hb => f (i + 1) a b (by simpa using ha) (by simpa using hb))
section
variable {X : Cx}
/-! ### s[::-1] -/
def tRevS (te : TE) : TE := fun σ H Q => te σ H fun x H1 => ∃ l : List Nat, x = .str (tx l) ∧ l.length ≤ 1000 ∧ Q (.str (tx l.reverse)) H1
theorem pick_rev (l : List Nat) : (Builtin.Str.strSliceIndices none none (-1) l.length).filterMap (l.toArray[·]?) = l.reverse := by
  have e : Builtin.Str.strSliceIndices none none (-1) l.length = ((List.range l.length).map fun i => l.length - 1 - i) := by
    unfold Builtin.Str.strSliceIndices sliceRange
    simp
    rcases Nat.eq_zero_or_pos l.length with h | h
    · simp [h]
    · have h2 : (-1 : Int) < (l.length : Int) - 1 := by omega
      rw [if_pos h2]
      have e3 : ((l.length : Int)).toNat = l.length := by omega
      rw [e3]
      refine List.map_congr_left fun i hi => ?_
      have := List.mem_range.mp hi
      omega
  rw [e, List.filterMap_map]
  have e2 : ∀ (n : Nat), n ≤ l.length → ((List.range n).filterMap ((fun x => l.toArray[x]?) ∘ fun i => l.length - 1 - i)) = (l.drop (l.length - n)).reverse := by
    intro n
    induction n with
    | zero => intro _; simp
    | succ n ih =>
      intro hn
      rw [List.range_succ, List.filterMap_append, ih (by omega)]
      have hlt : l.length - 1 - n < l.length := by omega
      have ed : l.drop (l.length - (n + 1)) = l[l.length - 1 - n] :: l.drop (l.length - n) := by
        have e5 : l.length - (n + 1) = l.length - 1 - n := by omega
        rw [e5, List.drop_eq_getElem_cons hlt]
        have e6 : l.length - 1 - n + 1 = l.length - n := by omega
        rw [e6]
      rw [ed, List.reverse_cons]
      simp [hlt]
  have e4 := e2 l.length (Nat.le_refl _)
  simpa using e4
theorem pe_revS {e : Expr} {te : TE} {k : Nat} {p1 p2 p3 pos : Pos} (he : PE X e te) : PE X (.Subscript e (.Slice none none (some (.UnaryOp .USub (.Constant (.int 1) k p1) p2)) p3) pos) (tRevS te) := by
  refine ⟨fun pins s σ H Q I h => ?_⟩
  refine Subscript_ (thn (he.run pins s σ H _ I h) fun v s1 ⟨x, H1, I1, r1, q1⟩ => ?_)
  obtain ⟨a, ex, hx, q⟩ := q1
  subst ex
  obtain ⟨tk, rfl⟩ := r1
  have hst : PO X (some (.UnaryOp .USub (.Constant (.int 1) k p1) p2)) (tPart (tUn (rU fun i => .int (-i)) (tC (.int 1)))) := po_some (pe_un un_neg pe_int)
  refine wpAny_Slice (thn (po_none.run pins s1 σ H1 (fun o H2 => o = none ∧ H2 = H1) I1 ⟨rfl, rfl⟩) fun vl s2 ⟨l, H2, I2, pl, el, e2⟩ => ?_)
  subst el e2
  refine thn (po_none.run pins s2 σ H2 (fun o H3 => o = none ∧ H3 = H2) I2 ⟨rfl, rfl⟩) fun vu s3 ⟨u, H3, I3, pu, eu, e3⟩ => ?_
  subst eu e3
  refine thn (hst.run pins s3 σ H3 (fun o H4 => o = some (-1) ∧ H4 = H3) I3 ⟨1, rfl, -1, rfl, rfl, rfl⟩) fun vs s4 ⟨o, H4, I4, ps, eo, e4⟩ => ?_
  subst eo e4
  have I5 : Inv X pins σ H4 { s4 with heap := s4.heap.push { cls := .type "slice", data := .fields #[vl, vu, vs] } } := I4.kept (t' := s4.toks) fun b ob q => Heap.get?_push_of_some _ q
  obtain ⟨l1, rfl, z1⟩ := IsPart.raw pl
  obtain ⟨u1, rfl, z2⟩ := IsPart.raw pu
  obtain ⟨w1, rfl, z3⟩ := IsPart.raw ps
  cases l1 with
  | some q => cases z1
  | none =>
  cases u1 with
  | some q => cases z2
  | none =>
  cases w1 with
  | none => cases z3
  | some w1 =>
  obtain ⟨w1, wt⟩ := w1
  obtain rfl : w1 = -1 := Option.some.inj z3
  have hlen : (tx a).length ≤ sizeLine := by rw [tx_len]; exact Nat.le_of_lt (small1000 hx)
  refine tail_any (ops := [.str (tx a) tk, .ref s4.heap.objs.size]) (typeIs_str _ _ _) (PySem.F.slot_str_getitem.lookup) ?_ (by with_unfolding_all rfl)
  refine wpAny_getItem_str_slice (l := none) (u := none) (st := some (-1, wt)) ⟨_, Heap.get?_push_size _ rfl, rfl, rfl⟩ rfl ?_
  have ef : ((Builtin.Str.strSliceIndices none none (-1) (tx a).length).filterMap ((tx a).cps[·]?)).toArray = a.reverse.toArray := by
    rw [tx_len]
    exact congrArg List.toArray (pick_rev a)
  show Made.post (if ((-1 : Int) == 1 && (Builtin.Str.strSliceIndices none none (-1) (tx a).length).length == (tx a).length) = true then Made.val (.str (tx a) tk)
    else Made.str ⟨((Builtin.Str.strSliceIndices none none (-1) (tx a).length).filterMap ((tx a).cps[·]?)).toArray⟩) (EP X pins σ Q) _
  rw [if_neg (by simp), ef]
  refine ⟨?_, .str _, H4, I5.tok _, ⟨_, rfl⟩, q⟩
  show (tx a.reverse).length ≤ sizeLine
  rw [tx_len, List.length_reverse]
  exact Nat.le_of_lt (small1000 hx)
/-! ### list(text) -/
theorem signs_vals (l : List Nat) (its : Array Value) (c : ItemsOf (SignAt (tx l)) its (tx l).cps.size) : Vals (l.map fun c => V.str (tx [c])) its.toList := by
  refine paired_of_get (by
    have c1 := c.1
    simp [tx] at c1
    simp [c1]) fun i x u hx hu => ?_
  rw [List.getElem?_map] at hx
  obtain ⟨n, hn, rfl⟩ := Option.map_eq_some_iff.mp hx
  obtain ⟨m, t, hm, rfl⟩ := c.2 i u (by simpa using hu)
  have e : l.toArray[i]? = some m := hm
  rw [List.getElem?_toArray, hn] at e
  cases e
  exact ⟨t, rfl⟩
theorem call_listS (hc : X.calm = true) : CallR X (.type "list") (fun xs H Q => ∃ l : List Nat, xs = [.str (tx l)] ∧ l.length ≤ 1000 ∧ ∀ p, H p = none → Q (.ref p) (upd H p (.lst (l.map fun c => V.str (tx [c]))))) := by
  intro pins s σ H xs us Q I rs h
  obtain ⟨l, rfl, hl, h⟩ := h
  cases rs with
  | cons r1 rs =>
    cases rs
    obtain ⟨t, rfl⟩ := r1
    have hz : (tx l).cps.size ≤ sizeLine := by show l.toArray.size ≤ sizeLine; rw [List.size_toArray]; exact Nat.le_of_lt (small1000 hl)
    refine call_list_str (I.ok.hd hc) (tx l) t (fun h' tk acc' c' hk hS hacc => ?_) hz
    have hv := signs_vals l acc' hacc
    refine ⟨.ref _, _, I.laid (o := .lst (l.map fun c => V.str (tx [c]))) hk (Nat.le_refl _) ⟨by rw [List.length_map]; exact Nat.le_of_lt (small1000 hl), acc'.toList, c', hv, by simpa using hS⟩, rfl, h _ (I.hok.fresh (Nat.le_refl _))⟩
/-! ### text * int -/
theorem op_mulS : OpR X (binaryOp .Mult) (fun x y H Q => ∃ (l : List Nat) (n : Int), x = .str (tx l) ∧ y = .int n ∧ l.length ≤ 4000 ∧ 0 ≤ n ∧ n ≤ 4000 ∧ Q (.str (tx (List.replicate n.toNat l).flatten)) H) := by
  intro pins s σ H x y v u Q I r1 r2 h
  obtain ⟨l, n, rfl, rfl, hl, h0, hn, q⟩ := h
  obtain ⟨t, rfl⟩ := r1
  obtain ⟨t', rfl⟩ := r2
  have hsz : sizeLine = 16777216 := sizeLine_eq
  have hz : l.length * n.toNat ≤ 16000000 := Nat.le_trans (Nat.mul_le_mul hl (show n.toNat ≤ 4000 by omega)) (by decide)
  have ef : ∀ k : Nat, (List.replicate k (tx l).cps).foldl (· ++ ·) #[] = (List.replicate k l).flatten.toArray := fun k => by
    induction k with
    | zero => rfl
    | succ k ih =>
      rw [List.replicate_succ', List.foldl_append, ih, List.replicate_succ', List.flatten_append]
      simp [tx]
  have hlen : (List.replicate n.toNat l).flatten.length = n.toNat * l.length := by simp
  refine P.mul_str ?_ ?_ ?_ ?_
  · rw [decide_eq_false (by omega), decide_eq_false (by omega)]
    rfl
  · intro h1 _ h2
    have h3 : ((tx l).length : Int) ≤ (2 ^ 63 - 1) / n := by
      rw [tx_len]
      refine (Int.le_ediv_iff_mul_le (by omega)).mpr ?_
      have h4 : (l.length : Int) * n ≤ 4000 * 4000 := by
        refine Int.mul_le_mul (by omega) hn h0 (by decide)
      omega
    omega
  · intro _ _
    rw [tx_len]
    show decide (l.length * n.toNat > sizeLine) = false
    exact decide_eq_false (by omega)
  · split
    · rename_i h1
      have e0 : n.toNat = 0 := by omega
      rw [e0] at q
      exact ⟨by decide, .str _, H, I.tok _, ⟨_, rfl⟩, q⟩
    · split
      · rename_i h2
        have e1 : (List.replicate n.toNat l).flatten = l := by
          rcases Bool.or_eq_true_iff.mp h2 with h3 | h3
          · have e3 : n = 1 := by simpa using h3
            rw [e3]
            simp
          · have e3 : l.length = 0 := by rw [tx_len] at h3; simpa using h3
            have e4 : l = [] := List.length_eq_zero_iff.mp e3
            rw [e4]
            simp
        rw [e1] at q
        exact ⟨.str _, H, I, ⟨t, rfl⟩, q⟩
      · rw [ef]
        refine ⟨?_, .str _, H, I.tok _, ⟨_, rfl⟩, q⟩
        show (tx (List.replicate n.toNat l).flatten).length ≤ sizeLine
        rw [tx_len, hlen, Nat.mul_comm]
        omega
/-! ### letters.index(letter) -/
def alphaL : List Nat := (List.range 26).map (97 + ·)
theorem index_alpha : ∀ i, i < 26 → Builtin.Str.occurrences "abcdefghijklmnopqrstuvwxyz" (tx [97 + i]) 0 (PySem.Str.length "abcdefghijklmnopqrstuvwxyz") 1 = [i] := by decide +kernel
theorem mt_indexA : MtR X "str.index" (fun x xs H Q => ∃ i : Nat, x = .str "abcdefghijklmnopqrstuvwxyz" ∧ xs = [.str (tx [97 + i])] ∧ i < 26 ∧ Q (.int (i : Int)) H) := by
  intro pins s σ H x xs v us Q I rx rs h
  obtain ⟨i, rfl, rfl, hi, q⟩ := h
  obtain ⟨t, rfl⟩ := rx
  cases rs with
  | cons r1 rs =>
    cases rs
    obtain ⟨u, rfl⟩ := r1
    exact PySem.SC.index (index_alpha i hi) ⟨.int (i : Nat), H, I.tok _, ⟨_, rfl⟩, q⟩
end
end Mw


set_option Elab.async false
set_option linter.all false
set_option maxRecDepth 100000
set_option maxHeartbeats 4000000
namespace Mw
open PySem PySem.Spec PyProof.Rows L2
/-! ### what is walked in pairs, from sources that stand -/
/-- n turns; at turn i a new pair of xs i and ys i -/
def ItG (n : Nat) (G : Hp → Prop) (xs ys : Nat → Option V) : It :=
  ⟨fun i H => i < n ∧ G H, fun i H v H' => ∃ T x y, v = .ref T ∧ H T = none ∧ H' = upd H T (.tup [x, y]) ∧ xs i = some x ∧ ys i = some y, fun i H => i = n ∧ G H⟩
theorem walk_G {n : Nat} {G : Hp → Prop} {xs ys : Nat → Option V} : Walk (ItG n G xs ys) n G (YPair xs ys) :=
  ⟨fun i H h g => ⟨h, g⟩, fun H g => ⟨rfl, g⟩, fun i H x H' _ _ y => y⟩
/-! ### enumerate(tuple) -/
set_option maxHeartbeats 1000000 in
theorem meets_enumT {v : Value} {o : Obj} {Hs : Heap → Prop} (B : Begins v o Hs) :
    Meets (Builtin.«enumerate.__new__» ⟨[.type "enumerate", v], []⟩) (fun _ R s => Hs s.heap ∧
      R (.ok (.ret (.ref (s.heap.push o).objs.size))) { s with heap := (s.heap.push o).push { cls := .type "enumerate", data := .fields #[.none, .bool false, .ref s.heap.objs.size, rawInt 0, .none, .none] } }) :=
  .of_wp fun prog w A R s h => by
    obtain ⟨hp, g, d, tk, os⟩ := s
    obtain ⟨h1, h⟩ := h
    have hsub := sub_enumerate
    have go : ∀ {A' : Around} {E : Value → Shared → Prop} {Q : Value → Shared → Prop}, Q (.ref hp.objs.size) ⟨hp.push o, g, d, tk, os⟩ → wpAny (model prog w) A' (pyIter v) Q E ⟨hp, g, d, tk, os⟩ :=
      fun q => B.iter prog w _ _ ⟨hp, g, d, tk, os⟩ _ h1 q
    wp_walk using go
    refine wpAny_stack_any fun st => wpAny_pure ?_
    split
    · rename_i c _ _ _ _ _
      cases (c == Value.type "enumerate") <;> (wp_walk using go; exact ⟨_, rfl, h⟩)
    · wp_walk using go
      exact ⟨_, rfl, h⟩
theorem call_enumB {prog : Program} {w : World} {A : Around} {E : Value → Shared → Prop} {s : Shared} {v : Value} {o : Obj} {Hs : Heap → Prop} {Q : Value → Shared → Prop} (B : Begins v o Hs) (h1 : Hs s.heap)
    (h : ∀ h', IsEnum h' (s.heap.objs.size + 1) s.heap.objs.size 0 .none → h'.get? s.heap.objs.size = some o → (∀ b o, s.heap.get? b = some o → h'.get? b = some o) → Q (.ref (s.heap.objs.size + 1)) { s with heap := h' }) :
    wpAny (model prog w) A (call (.type "enumerate") [v]) Q E s := by
  refine callType_new F.called_enumerate (by decide) (F.typeCall_enumerate_1 _) (F.newCall_enumerate_1 _) (fun obj => F.args_object_init_2 obj _) F.entry_enumerate_new (meets_enumT B) ⟨h1, ?_⟩
  have hz : (s.heap.push o).objs.size = s.heap.objs.size + 1 := Heap.size_push ..
  have he := Heap.get?_push_size (s.heap.push o) (o := { cls := .type "enumerate", data := .fields #[.none, .bool false, .ref s.heap.objs.size, rawInt 0, .none, .none] }) rfl
  show _ ∧ _
  rw [hz] at he ⊢
  exact ⟨⟨_, he, rfl⟩, h _ he (Heap.get?_push_of_some _ (Heap.get?_push_size _ B.free)) fun b u x => Heap.get?_push_of_some _ (Heap.get?_push_of_some _ x)⟩
def ItET (K : PySem.W.Frag) (a : Addr) (xs : List V) : It := ItG xs.length (fun H => SqT K H a xs) (fun i => some (.int (i : Nat))) (fun i => xs[i]?)
theorem turn_enumT {P : Program} {w : World} {K : PySem.W.Frag} {elts : List Expr} {kk : Nat} {tpos : Pos} (a e it : Addr) (xs : List V) :
    Turn P w K (.Tuple elts kk tpos) (ItET K a xs) [e, it] e (fun i h => (∃ old, IsEnum h e it (0 + ((i : Nat) : Int)) old) ∧ h.IsTupleIter it a i ∧ e ≠ it ∧ a ≠ it ∧ e ≠ a) where
  mem := by simp
  obj := fun i h st b hb => by
    obtain ⟨⟨old, he⟩, ⟨o, ho, hc, hd⟩, _⟩ := st
    have e' : b = e ∨ b = it := by simpa using hb
    rcases e' with z | z
    · rw [z]; exact ⟨_, he, fun v q => nomatch q⟩
    · rw [z]; exact ⟨o, ho, fun v q => by rw [hd] at q; cases q⟩
  keep := fun i h h' st k => let ⟨⟨old, he⟩, hi, hne⟩ := st; ⟨⟨old, k e (by simp) _ he⟩, hi.at fun o q => k it (by simp) o q, hne⟩
  item := by
    intro X hP hw hK hc i pins s σ H E I hf st hg
    subst hP hw hK
    obtain ⟨⟨old, he⟩, hit, hne, hai, hea⟩ := st
    obtain ⟨hi, hq⟩ := hg
    obtain ⟨its, rv, p, hz⟩ := I.tuple hq
    have hlen := rv.length
    have D := Draws.tuple (prog := X.prog) (w := X.w) (A := X.A.in1) (by rw [show X.A.in1.handled = X.A.handled from rfl]; exact I.ok.hd hc) it a hai its.toArray
    have hel : e < s.heap.objs.size := Heap.lt_size he
    have hil : it < s.heap.objs.size := by obtain ⟨_, q, _⟩ := hit; exact Heap.lt_size q
    refine wpAny_pyNext_enum_itemC D he ⟨hit, p⟩ (by rw [List.size_toArray, ← hlen]; exact hi) hne (by simp [hne, hea]) fun u h' tk hu ho st' hT hsz hk => ?_
    have hx := List.getElem?_eq_getElem hi
    obtain ⟨u', hu', ru⟩ := rv.get hx
    have euu : u' = u := by
      have h1 : its.toArray[i]? = some u := hu
      rw [List.getElem?_toArray, hu'] at h1
      exact Option.some.inj h1
    subst euu
    refine ⟨_, rfl, wpAny_letOwnedTupleGo_enum (s := { s with heap := h', toks := tk + 1 }) ho fun h'' he' sb => ?_⟩
    have hT2 : h''.get? s.heap.objs.size = some { cls := .type "tuple", data := .seq #[.int (0 + (i : Int)) tk, u'] } := (sb.2 _ (Nat.ne_of_gt hel)).trans hT
    have new : ObjOk X.prog X.w (upd H s.heap.objs.size (.tup [.int (i : Nat), xs[i]])) h'' s.heap.objs.size (.tup [.int (i : Nat), xs[i]]) :=
      ⟨by show 2 ≤ sizeLine; decide, [.int (0 + (i : Int)) tk, u'], .cons ⟨tk, by rw [Int.zero_add]⟩ (.cons ru .nil), ⟨_, hT2, rfl, _, rfl⟩⟩
    have I1 : Inv X pins σ (upd H s.heap.objs.size (.tup [.int (i : Nat), xs[i]])) { s with heap := h'', toks := tk + 1 } :=
      I.turnedNew (ch := [e, it]) (fun b ob hb q => (sb.2 b (fun z => hb (by simp [z]))).trans (hk b ob (fun z => hb (by simp [z])) (fun z => hb (by simp [z])) q)) hf (Nat.le_refl _) new
    refine ⟨.ref s.heap.objs.size, _, I1, rfl, ⟨_, _, _, rfl, I.hok.fresh (Nat.le_refl _), rfl, rfl, hx⟩, ⟨⟨u', ?_⟩, st'.1.at fun o q => (sb.2 it (Ne.symm hne)).trans q, hne, hai, hea⟩, fun b hb => ?_⟩
    · have e1 : 0 + ((i + 1 : Nat) : Int) = 0 + (i : Int) + 1 := by omega
      rw [e1]; exact he'
    · have hb' : b < s.heap.objs.size := by
        have e' : b = e ∨ b = it := by simpa using hb
        rcases e' with z | z
        · rw [z]; exact hel
        · rw [z]; exact hil
      rw [upd_ne (Nat.ne_of_lt hb')]
      exact (hf b hb).1
  done := by
    intro X hP hw hK hc i pins s σ H E I hf st hg
    subst hP hw hK
    obtain ⟨⟨old, he⟩, hit, hne, hai, hea⟩ := st
    obtain ⟨hi, hq⟩ := hg
    obtain ⟨its, rv, p, hz⟩ := I.tuple hq
    have hlen := rv.length
    have D := Draws.tuple (prog := X.prog) (w := X.w) (A := X.A.in1) (by rw [show X.A.in1.handled = X.A.handled from rfl]; exact I.ok.hd hc) it a hai its.toArray
    obtain ⟨f0, f1, f2, f3, f4, f5⟩ := hf it (by simp)
    refine wpAny_pyNext_enum_endD D he (by rw [List.size_toArray, ← hlen, ← hi]; exact ⟨hit, p⟩) fun h' eb => ⟨rfl, I.turned (t' := s.toks) (fun b o hb q => eb b o hb q) f0 f1 f3 f4 f5⟩
  self := fun A i s Q E st h => let ⟨⟨_, he⟩, _⟩ := st; wpAny_pyIter_enum he h
def iEnumT (K : PySem.W.Frag) (ta : TA) : TI := fun σ H R => ta σ H fun vs H1 => ∃ a xs, vs = [.ref a] ∧ SqT K H1 a xs ∧ R (ItET K a xs) H1
theorem pi_enumT {X : Cx} {e : Expr} {ta : TA} {p pos tpos : Pos} {elts : List Expr} {kk : Nat} (hg : Gl X "enumerate") (hm : X.mg "enumerate" = none) (ha : PA X [e] ta) (hs : starEach [e] X.env = [(false, eval e X.env)] := by rfl) :
    PI X (.Tuple elts kk tpos) (.Call (.Name "enumerate" p) [e] [] pos) (iEnumT X.K ta) := by
  refine ⟨fun pins s σ H R I h => ?_⟩
  refine Call_ (ld_blt I hg hm boot_enumerate (PyProof.Rows.callWith_type1 (thn (ha.run pos pins s σ H _ I h) fun us s1 ⟨vs, H1, I1, r1, q1⟩ => ?_) hs rfl))
  obtain ⟨a, xs, rfl, hq, q⟩ := q1
  cases r1 with
  | cons r rr =>
    cases rr
    cases r
    obtain ⟨its, rv, p', hz⟩ := I1.tuple hq
    have hlt : a < s1.heap.objs.size := p'.lt
    refine call_enumB (begins_tuple a its.toArray) p' fun h' he hit hk => wpAny_pyIter_enum he ?_
    have I2 : Inv X pins σ H1 { s1 with heap := h' } := I1.kept (t' := s1.toks) hk
    refine ⟨s1.heap.objs.size + 1, [s1.heap.objs.size + 1, s1.heap.objs.size], _, _, H1, rfl, I2, turn_enumT a (s1.heap.objs.size + 1) s1.heap.objs.size xs, ⟨⟨.none, he⟩, ⟨_, hit, rfl, rfl⟩, Nat.succ_ne_self _, Nat.ne_of_lt hlt, Nat.ne_of_gt (Nat.lt_succ_of_lt hlt)⟩, fun b hb => ?_, q⟩
    have e' : b = s1.heap.objs.size + 1 ∨ b = s1.heap.objs.size := by simpa using hb
    have hle : s1.heap.objs.size ≤ b := by
      rcases e' with z | z
      · rw [z]; exact Nat.le_add_right _ _
      · rw [z]; exact Nat.le_refl _
    exact I1.fpOk hle (I1.hok.fresh hle)
/-! ### zip of two things of any kind -/
/-- one side of a zip: the iterator at it (its object's state by the turn), what it gives while G stands -/
structure Side (P : Program) (w : World) (K : PySem.W.Frag) (G : Hp → Prop) (it : Addr) (fp : List Addr) (xs : List V) (It1 : Nat → Heap → Prop) : Prop where
  keep : ∀ (i : Nat) (h h' : Heap), It1 i h → (∀ o, h.get? it = some o → h'.get? it = some o) → It1 i h'
  obj : ∀ (i : Nat) (h : Heap), It1 i h → ∃ o, h.get? it = some o ∧ ∀ v, o.data ≠ .cell v
  draws : ∀ (X : Cx), X.prog = P → X.w = w → X.K = K → X.calm = true → ∀ (pins : List (Addr × Obj)) (s : Shared) (σ : L2.St) (H : Hp), Inv X pins σ H s → G H →
    ∃ (P1 : Nat → Value → Prop) (St1 : Nat → Heap → Prop), Draws P w X.A.in1 it fp xs.length P1 St1 ∧ (∀ i, It1 i s.heap → St1 i s.heap) ∧ (∀ i h, St1 i h → It1 i h) ∧ ∀ i u, P1 i u → ∃ x, xs[i]? = some x ∧ RelV x u
theorem turn_zipG {P : Program} {w : World} {K : PySem.W.Frag} {elts : List Expr} {kk : Nat} {tpos : Pos} {z TI TO i1 i2 : Addr} {fp1 fp2 : List Addr} {xs ys : List V} {G : Hp → Prop} {It1 It2 : Nat → Heap → Prop}
    (S : ZipSep2 z TI TO i1 i2 fp1 fp2) (S1 : Side P w K G i1 fp1 xs It1) (S2 : Side P w K G i2 fp2 ys It2) :
    Turn P w K (.Tuple elts kk tpos) (ItG (min xs.length ys.length) G (fun i => xs[i]?) (fun i => ys[i]?)) [z, TI, TO, i1, i2] z (fun i h => IsZip h z TI TO .none ∧ IsTupOf2 h TI (.ref i1) (.ref i2) ∧ (∃ x y, IsTupOf2 h TO x y) ∧ It1 i h ∧ It2 i h) where
  mem := by simp
  obj := fun i h st c hc => by
    obtain ⟨hz, hTI, ⟨x, y, hTO⟩, t1, t2⟩ := st
    have e' : c = z ∨ c = TI ∨ c = TO ∨ c = i1 ∨ c = i2 := by simpa using hc
    rcases e' with q | q | q | q | q
    · rw [q]; exact ⟨_, hz, fun v q => nomatch q⟩
    · rw [q]; exact ⟨_, hTI, fun v q => nomatch q⟩
    · rw [q]; exact ⟨_, hTO, fun v q => nomatch q⟩
    · rw [q]; exact S1.obj i h t1
    · rw [q]; exact S2.obj i h t2
  keep := fun i h h' st k => by
    obtain ⟨hz, hTI, ⟨x, y, hTO⟩, t1, t2⟩ := st
    exact ⟨k z (by simp) _ hz, k TI (by simp) _ hTI, ⟨x, y, k TO (by simp) _ hTO⟩, S1.keep i h h' t1 (k i1 (by simp)), S2.keep i h h' t2 (k i2 (by simp))⟩
  item := by
    intro X hP hw hK hc i pins s σ H E I hf st hg
    obtain ⟨hz, hTI, ⟨x0, y0, hTO⟩, t1, t2⟩ := st
    obtain ⟨hi, g⟩ := hg
    obtain ⟨P1, St1, D1, a1, b1, c1⟩ := S1.draws X hP hw hK hc pins s σ H I g
    obtain ⟨P2, St2, D2, a2, b2, c2⟩ := S2.draws X hP hw hK hc pins s σ H I g
    subst hP hw hK
    have hi1 : i < xs.length := by omega
    have hi2 : i < ys.length := by omega
    have hzl : z < s.heap.objs.size := Heap.lt_size hz
    refine wpAny_pyNext_zipD2_item S D1 D2 hz hTI hTO (a1 i t1) (a2 i t2) hi1 hi2 fun u1 u2 h' tk p1 p2 z' TO' t1' t2' hT hsz hk => ?_
    obtain ⟨x, hx, rx⟩ := c1 i u1 p1
    obtain ⟨y, hy, ry⟩ := c2 i u2 p2
    refine ⟨_, rfl, wpAny_letOwnedTupleGo_zip (s := { s with heap := h', toks := tk }) z' fun h'' z'' sb => ?_⟩
    have hT2 : h''.get? s.heap.objs.size = some { cls := .type "tuple", data := .seq #[u1, u2] } := (sb.2 _ (Nat.ne_of_gt hzl)).trans hT
    have new : ObjOk X.prog X.w (upd H s.heap.objs.size (.tup [x, y])) h'' s.heap.objs.size (.tup [x, y]) :=
      ⟨by show 2 ≤ sizeLine; decide, [u1, u2], .cons rx (.cons ry .nil), ⟨_, hT2, rfl, _, rfl⟩⟩
    have I1 : Inv X pins σ (upd H s.heap.objs.size (.tup [x, y])) { s with heap := h'', toks := tk } :=
      I.turnedNew (t' := tk) (ch := [z, TI, TO, i1, i2]) (fun c o hb q => (sb.2 c (fun q' => hb (by simp [q']))).trans (hk c o (fun q' => hb (by simp [q'])) (fun q' => hb (by simp [q'])) (fun q' => hb (by simp [q'])) (fun q' => hb (by simp [q'])) q)) hf (Nat.le_refl _) new
    refine ⟨.ref s.heap.objs.size, _, I1, rfl, ⟨_, x, y, rfl, I.hok.fresh (Nat.le_refl _), rfl, hx, hy⟩, ⟨z'', ?_, ⟨u1, u2, ?_⟩, ?_, ?_⟩, fun c hcm => ?_⟩
    · exact (sb.2 _ S.TIz).trans (hk _ _ S.TIz S.TITO S.TIi1 S.TIi2 hTI)
    · exact (sb.2 _ S.TOz).trans TO'
    · exact S1.keep (i + 1) h' h'' (b1 _ _ t1') fun o q => (sb.2 _ (Ne.symm S.zi1)).trans q
    · exact S2.keep (i + 1) h' h'' (b2 _ _ t2') fun o q => (sb.2 _ (Ne.symm S.zi2)).trans q
    · have hlt : c < s.heap.objs.size := by
        have e' : c = z ∨ c = TI ∨ c = TO ∨ c = i1 ∨ c = i2 := by simpa using hcm
        rcases e' with q | q | q | q | q
        · rw [q]; exact hzl
        · rw [q]; exact Heap.lt_size hTI
        · rw [q]; exact Heap.lt_size hTO
        · rw [q]; obtain ⟨_, e1⟩ := D1.live _ _ (a1 i t1); exact Heap.lt_size e1
        · rw [q]; obtain ⟨_, e2⟩ := D2.live _ _ (a2 i t2); exact Heap.lt_size e2
      rw [upd_ne (Nat.ne_of_lt hlt)]
      exact (hf c hcm).1
  done := by
    intro X hP hw hK hc i pins s σ H E I hf st hg
    obtain ⟨hz, hTI, ⟨x0, y0, hTO⟩, t1, t2⟩ := st
    obtain ⟨hi, g⟩ := hg
    obtain ⟨P1, St1, D1, a1, b1, c1⟩ := S1.draws X hP hw hK hc pins s σ H I g
    obtain ⟨P2, St2, D2, a2, b2, c2⟩ := S2.draws X hP hw hK hc pins s σ H I g
    subst hP hw hK
    exact wpAny_pyNext_zipD2_end S D1 D2 hz hTI hTO (a1 i t1) (a2 i t2) (by omega) (by omega) (by omega) fun h' tk hk => ⟨rfl, I.turnedL (t' := tk) (ch := [z, TI, TO, i1, i2]) (fun c o hb q =>
      hk c o (fun q' => hb (by simp [q'])) (fun q' => hb (by simp [q'])) (fun q' => hb (by simp [q'])) (fun q' => hb (by simp [q'])) q) hf⟩
  self := fun A i s Q E st h => wpAny_pyIter_zip st.1 h
section
variable {P : Program} {w : World} {K : PySem.W.Frag} {G : Hp → Prop}
theorem side_tup {it a : Addr} {xs : List V} (hai : a ≠ it) (hG : ∀ H, G H → SqT K H a xs) : Side P w K G it [it, a] xs (fun i h => h.IsTupleIter it a i) where
  keep := fun i h h' st k => st.at k
  obj := fun i h st => let ⟨o, ho, hc, hd⟩ := st; ⟨o, ho, fun v q => by rw [hd] at q; cases q⟩
  draws := fun X hP hw hK hc pins s σ H I g => by
    subst hP hw hK
    obtain ⟨its, rv, p, hz⟩ := I.tuple (hG H g)
    have D := Draws.tuple (prog := X.prog) (w := X.w) (A := X.A.in1) (by rw [show X.A.in1.handled = X.A.handled from rfl]; exact I.ok.hd hc) it a hai its.toArray
    rw [show its.toArray.size = xs.length by rw [List.size_toArray]; exact rv.length.symm] at D
    refine ⟨fun i v => its.toArray[i]? = some v, fun i h => h.IsTupleIter it a i ∧ h.IsTuple a its.toArray, D, fun i st => ⟨st, p⟩, fun i h st => st.1, fun i u hu => ?_⟩
    have hi : its[i]? = some u := by rw [← List.getElem?_toArray]; exact hu
    have hlt : i < xs.length := by rw [rv.length]; exact (List.getElem?_eq_some_iff.mp hi).1
    obtain ⟨u', hu', ru⟩ := rv.get (List.getElem?_eq_getElem hlt)
    rw [hi] at hu'
    cases hu'
    exact ⟨_, List.getElem?_eq_getElem hlt, ru⟩
theorem side_lst {it a : Addr} {xs : List V} (hai : a ≠ it) (hG : ∀ H, G H → SqL K H a xs) : Side P w K G it [it, a] xs (fun i h => h.IsListIter it a i) where
  keep := fun i h h' st k => st.at k
  obj := fun i h st => let ⟨o, ho, hc, hd⟩ := st; ⟨o, ho, fun v q => by rw [hd] at q; cases q⟩
  draws := fun X hP hw hK hc pins s σ H I g => by
    subst hP hw hK
    obtain ⟨its, rv, p, hz⟩ := I.list (hG H g)
    have D := Draws.list (prog := X.prog) (w := X.w) (A := X.A.in1) (by rw [show X.A.in1.handled = X.A.handled from rfl]; exact I.ok.hd hc) it a hai its.toArray
    rw [show its.toArray.size = xs.length by rw [List.size_toArray]; exact rv.length.symm] at D
    refine ⟨fun i v => its.toArray[i]? = some v, fun i h => h.IsListIter it a i ∧ h.IsList a its.toArray, D, fun i st => ⟨st, p.isList⟩, fun i h st => st.1, fun i u hu => ?_⟩
    have hi : its[i]? = some u := by rw [← List.getElem?_toArray]; exact hu
    have hlt : i < xs.length := by rw [rv.length]; exact (List.getElem?_eq_some_iff.mp hi).1
    obtain ⟨u', hu', ru⟩ := rv.get (List.getElem?_eq_getElem hlt)
    rw [hi] at hu'
    cases hu'
    exact ⟨_, List.getElem?_eq_getElem hlt, ru⟩
theorem side_txt {it : Addr} {l : List Nat} {t : Tok} : Side P w K G it [it] (l.map fun c => V.str (tx [c])) (fun i h => h.IsStrIter it (strIterType (tx l)) (tx l) t i) where
  keep := fun i h h' st k => let ⟨o, ho, r⟩ := st; ⟨o, k o ho, r⟩
  obj := fun i h st => let ⟨o, ho, hc, hd⟩ := st; ⟨o, ho, fun v q => by rw [hd] at q; cases q⟩
  draws := fun X hP hw hK hc pins s σ H I g => by
    subst hP hw hK
    have D := Draws.text (prog := X.prog) (w := X.w) (A := X.A.in1) (by rw [show X.A.in1.handled = X.A.handled from rfl]; exact I.ok.hd hc) it (tx l) t
    refine ⟨_, _, by rw [show (l.map fun c => V.str (tx [c])).length = (tx l).cps.size by simp [tx]]; exact D, fun i st => st, fun i h st => st, fun i u hu => ?_⟩
    obtain ⟨c, t', hc', rfl⟩ := hu
    have e : l[i]? = some c := by rw [← List.getElem?_toArray]; exact hc'
    exact ⟨.str (tx [c]), by rw [List.getElem?_map, e]; rfl, t', rfl⟩
end
/-- zip(text, tuple) -/
def ItZST (K : PySem.W.Frag) (l : List Nat) (b : Addr) (ys : List V) : It := ItG (min (l.map fun c => V.str (tx [c])).length ys.length) (fun H => SqT K H b ys) (fun i => (l.map fun c => V.str (tx [c]))[i]?) (fun i => ys[i]?)
def iZipST (K : PySem.W.Frag) (ta : TA) : TI := fun σ H R => ta σ H fun vs H1 => ∃ l b ys, vs = [.str (tx l), .ref b] ∧ SqT K H1 b ys ∧ R (ItZST K l b ys) H1
/-- zip(tuple, list) -/
def ItZTL (K : PySem.W.Frag) (a : Addr) (xs : List V) (b : Addr) (ys : List V) : It := ItG (min xs.length ys.length) (fun H => SqT K H a xs ∧ SqL K H b ys) (fun i => xs[i]?) (fun i => ys[i]?)
def iZipTL (K : PySem.W.Frag) (ta : TA) : TI := fun σ H R => ta σ H fun vs H1 => ∃ a xs b ys, vs = [.ref a, .ref b] ∧ SqT K H1 a xs ∧ SqL K H1 b ys ∧ R (ItZTL K a xs b ys) H1
theorem zip_sep {n : Nat} {fp1 fp2 : List Addr} (h1 : n ∈ fp1) (h2 : n + 1 ∈ fp2) (l1 : ∀ b ∈ fp1, b = n ∨ b < n) (l2 : ∀ b ∈ fp2, b = n + 1 ∨ b < n) : ZipSep2 (n + 4) (n + 2) (n + 3) n (n + 1) fp1 fp2 where
  TIz := show (n + 2 : Nat) ≠ n + 4 by omega
  TOz := show (n + 3 : Nat) ≠ n + 4 by omega
  TITO := show (n + 2 : Nat) ≠ n + 3 by omega
  TIi1 := show (n + 2 : Nat) ≠ n by omega
  mem1 := h1
  zf1 := fun h => by have z : (n + 4 : Nat) = n ∨ (n + 4 : Nat) < n := l1 _ h; omega
  Tf1 := fun h => by have z : (n + 3 : Nat) = n ∨ (n + 3 : Nat) < n := l1 _ h; omega
  TIi2 := show (n + 2 : Nat) ≠ n + 1 by omega
  mem2 := h2
  zf2 := fun h => by have z : (n + 4 : Nat) = n + 1 ∨ (n + 4 : Nat) < n := l2 _ h; omega
  Tf2 := fun h => by have z : (n + 3 : Nat) = n + 1 ∨ (n + 3 : Nat) < n := l2 _ h; omega
  sep1_2 := fun h => by have z : (n : Nat) = n + 1 ∨ (n : Nat) < n := l2 _ h; omega
  sep2_1 := fun h => by have z : (n + 1 : Nat) = n ∨ (n + 1 : Nat) < n := l1 _ h; omega
section
variable {X : Cx} {e e2 : Expr} {ta : TA} {p pos tpos : Pos} {elts : List Expr} {kk : Nat}
theorem zip_fresh {pins : List (Addr × Obj)} {σ : L2.St} {H1 : Hp} {s1 : Shared} (I1 : Inv X pins σ H1 s1) : ∀ c, c ∈ [s1.heap.objs.size + 4, s1.heap.objs.size + 2, s1.heap.objs.size + 3, s1.heap.objs.size, s1.heap.objs.size + 1] → FpOk X pins H1 c := fun c hcm => by
  have hle : s1.heap.objs.size ≤ c := by
    simp only [List.mem_cons, List.not_mem_nil, or_false] at hcm
    rcases hcm with z | z | z | z | z <;> (rw [z]; first | exact Nat.le_refl _ | exact Nat.le_add_right _ _)
  exact I1.fpOk hle (I1.hok.fresh hle)
theorem pi_zipST (hg : Gl X "zip") (hm : X.mg "zip" = none) (ha : PA X [e, e2] ta)
    (hs : starEach [e, e2] X.env = (false, eval e X.env) :: starEach [e2] X.env := by rfl) (hpl : (backTo pos (starEach [e2] X.env)).any (·.1) = false := by rfl) :
    PI X (.Tuple elts kk tpos) (.Call (.Name "zip" p) [e, e2] [] pos) (iZipST X.K ta) := by
  refine ⟨fun pins s σ H R I h => ?_⟩
  refine Call_ (ld_blt I hg hm PyProof.Rows.boot_zip (PyProof.Rows.callWith_type1 (thn (ha.run pos pins s σ H _ I h) fun us s1 ⟨vs, H1, I1, r1, q1⟩ => ?_) hs hpl))
  obtain ⟨l, b, ys, rfl, hqy, q⟩ := q1
  cases r1 with
  | cons r rr =>
    cases rr with
    | cons r' rr =>
      cases rr
      obtain ⟨t, rfl⟩ := r
      cases r'
      obtain ⟨its2, rv2, p2, _⟩ := I1.tuple hqy
      have lb : b < s1.heap.objs.size := p2.lt
      refine zip_begins2 (begins_text (tx l) t) (begins_tuple b its2.toArray) trivial p2 fun h' hz hTI hTO h1 h2 hsz hk => wpAny_pyIter_zip hz ?_
      have I2 : Inv X pins σ H1 { s1 with heap := h' } := I1.kept (t' := s1.toks) hk
      refine ⟨s1.heap.objs.size + 4, [s1.heap.objs.size + 4, s1.heap.objs.size + 2, s1.heap.objs.size + 3, s1.heap.objs.size, s1.heap.objs.size + 1], _, _, H1, rfl, I2,
        turn_zipG (zip_sep (fp1 := [s1.heap.objs.size]) (fp2 := [s1.heap.objs.size + 1, b]) (by simp) (by simp) (fun c hc => .inl (by simpa using hc)) (fun c hc => by
          have e : c = s1.heap.objs.size + 1 ∨ c = b := by simpa using hc
          rcases e with e | e
          · exact .inl e
          · exact .inr (by rw [e]; exact lb))) (side_txt (l := l) (t := t)) (side_tup (a := b) (xs := ys) (Nat.ne_of_lt (Nat.lt_succ_of_lt lb)) fun H g => g), ⟨hz, hTI, ⟨_, _, hTO⟩, ⟨_, h1, rfl, rfl⟩, ⟨_, h2, rfl, rfl⟩⟩, zip_fresh I1, q⟩
theorem pi_zipTL (hg : Gl X "zip") (hm : X.mg "zip" = none) (ha : PA X [e, e2] ta)
    (hs : starEach [e, e2] X.env = (false, eval e X.env) :: starEach [e2] X.env := by rfl) (hpl : (backTo pos (starEach [e2] X.env)).any (·.1) = false := by rfl) :
    PI X (.Tuple elts kk tpos) (.Call (.Name "zip" p) [e, e2] [] pos) (iZipTL X.K ta) := by
  refine ⟨fun pins s σ H R I h => ?_⟩
  refine Call_ (ld_blt I hg hm PyProof.Rows.boot_zip (PyProof.Rows.callWith_type1 (thn (ha.run pos pins s σ H _ I h) fun us s1 ⟨vs, H1, I1, r1, q1⟩ => ?_) hs hpl))
  obtain ⟨a, xs, b, ys, rfl, hqx, hqy, q⟩ := q1
  cases r1 with
  | cons r rr =>
    cases rr with
    | cons r' rr =>
      cases rr
      cases r
      cases r'
      obtain ⟨its, rv, p1, _⟩ := I1.tuple hqx
      obtain ⟨its2, rv2, p2, _⟩ := I1.list hqy
      have la : a < s1.heap.objs.size := p1.lt
      have lb : b < s1.heap.objs.size := p2.lt
      refine zip_begins2 (begins_tuple a its.toArray) (begins_list b its2.toArray) p1 p2.isList fun h' hz hTI hTO h1 h2 hsz hk => wpAny_pyIter_zip hz ?_
      have I2 : Inv X pins σ H1 { s1 with heap := h' } := I1.kept (t' := s1.toks) hk
      refine ⟨s1.heap.objs.size + 4, [s1.heap.objs.size + 4, s1.heap.objs.size + 2, s1.heap.objs.size + 3, s1.heap.objs.size, s1.heap.objs.size + 1], _, _, H1, rfl, I2,
        turn_zipG (zip_sep (fp1 := [s1.heap.objs.size, a]) (fp2 := [s1.heap.objs.size + 1, b]) (by simp) (by simp) (fun c hc => by
          have e : c = s1.heap.objs.size ∨ c = a := by simpa using hc
          rcases e with e | e
          · exact .inl e
          · exact .inr (by rw [e]; exact la)) (fun c hc => by
          have e : c = s1.heap.objs.size + 1 ∨ c = b := by simpa using hc
          rcases e with e | e
          · exact .inl e
          · exact .inr (by rw [e]; exact lb))) (side_tup (a := a) (xs := xs) (Nat.ne_of_lt la) fun H g => g.1) (side_lst (a := b) (xs := ys) (Nat.ne_of_lt (Nat.lt_succ_of_lt lb)) fun H g => g.2),
        ⟨hz, hTI, ⟨_, _, hTO⟩, ⟨_, h1, rfl, rfl⟩, ⟨_, h2, rfl, rfl⟩⟩, zip_fresh I1, q⟩
end
end Mw


set_option Elab.async false
set_option linter.all false
set_option maxRecDepth 100000
set_option maxHeartbeats 4000000
namespace Mw
open PySem PySem.Spec PyProof.Rows L2
/-! ### min of a list of tuples (total, place, text): told while what stood stands -/
/-- while the objects of h0 stand, the i-th and the j-th item compare as bt says -/
def CmpIn (h0 : Heap) (A : Around) (P : Nat → Value → Prop) (bt : Nat → Nat → Bool) : Prop :=
  ∀ (i j : Nat) (vi vj : Value) (s : Shared), (∀ b o, h0.get? b = some o → s.heap.get? b = some o) → P i vi → P j vj → SeqAt.RcLt A s vi vj (bt i j)
section
variable {prog : Program} {w : World} {A : Around} {R : Result → Shared → Prop} {I : Addr} {fp wr : List Addr} {n : Nat} {P : Nat → Value → Prop} {St : Nat → Heap → Prop} {h0 : Heap} {bt : Nat → Nat → Bool} {S : Addr}
/-- the objects of h0 are none of the loop's own -/
def Clear (h0 : Heap) (wr : List Addr) (S : Addr) : Prop := ∀ b o, h0.get? b = some o → b ∉ wr ∧ b ≠ S
theorem min_step {s : Shared} {vb : Value} {c : Nat} (W : Walks prog w A.in1 I fp wr n P St) (hcmp : CmpIn h0 A.in1 P bt) (hSf : S ∉ fp) (cl : Clear h0 wr S) (k0 : ∀ b o, h0.get? b = some o → s.heap.get? b = some o)
    {j best : Nat} (hj : j < n) (hst : St j s.heap) (hb : P best vb) (hS : s.heap.get? S = some { cls := .type "list", dict := none, data := .seq #[vb, vb] c, slots := #[] })
    (next : ∀ v' c' (s' : Shared), s'.gens = s.gens → s'.drawn = s.drawn → s'.os = s.os → (∀ b o, b ∉ wr → b ≠ S → s.heap.get? b = some o → s'.heap.get? b = some o) → St (j + 1) s'.heap → P (if bt j best = true then j else best) v' →
      s'.heap.get? S = some { cls := .type "list", dict := none, data := .seq #[v', v'] c', slots := #[] } → codeAny (model prog w) A (.builtin "min.loop" ⟨[.ref I, .none, .ref S], []⟩) R s') :
    codeAny (model prog w) A (.builtin "min.loop" ⟨[.ref I, .none, .ref S], []⟩) R s := by
  have hSw : S ∉ wr := fun z => hSf (W.sub _ z)
  have hname : (toString "min" ++ toString ".loop" : String) = "min.loop" := by decide
  refine codeAny_builtin F.entry_min_loop ?_
  rw [Around.under_plainId F.plain_min_loop _]
  show wpAny _ A.in1 (seqItems? (.ref S) >>= _) _ _ s
  refine wpAny_bind (wpAny_seqItems hS rfl ?_)
  show wpAny _ A.in1 (tryCatch (pyNext (.ref I)) _ >>= _) _ _ s
  refine wpAny_bind (wpAny_tryCatch (W.item j s _ _ hj hst fun v h' tk hP hst' hk' => ?_))
  have hS' := hk' S _ hSw hS
  show wpAny _ A.in1 (tryCatch (holding [v, v] (richCompare .Lt v vb >>= _)) _ >>= _) _ _ _
  refine wpAny_bind (wpAny_tryCatch (wpAny_holding (wpAny_bind (hcmp j best v vb { s with heap := h', toks := tk } (fun b o e => hk' b o (cl b o e).1 (k0 b o e)) hP hb prog w _ _ ?_))))
  refine wpAny_bind (wpAny_holding (wpAny_truthy_bool ?_))
  refine wpAny_bind (wpAny_letGo (wpAny_pure ?_))
  cases q : bt j best with
  | true =>
    rw [q] at next
    simp only [if_true]
    refine wpAny_bind (wpAny_updateSeq hS' rfl (wpAny_bind (wpAny_letGo ?_)))
    rw [hname]
    refine wpAny_pure ⟨plainId_quiet F.plain_min_loop _, next v _ _ rfl rfl rfl (fun b o hbw hbS e => (Heap.get?_update_other _ _ (Ne.symm hbS)).trans (hk' b o hbw e)) (W.frame _ _ _ hst' fun b hbf o e => ?_) hP (Heap.get?_update_self _ hS' rfl)⟩
    exact (Heap.get?_update_other _ _ (fun z : S = b => hSf (by rw [z]; exact hbf))).trans e
  | false =>
    rw [q] at next
    simp only [Bool.false_eq_true, if_false]
    refine wpAny_bind (wpAny_letGo ?_)
    rw [hname]
    exact wpAny_pure ⟨plainId_quiet F.plain_min_loop _, next vb c _ rfl rfl rfl (fun b o hbw _ e => hk' b o hbw e) hst' hb hS'⟩
theorem min_done {s : Shared} {vb : Value} {c : Nat} (W : Walks prog w A.in1 I fp wr n P St) (hSf : S ∉ fp) (hst : St n s.heap) (hS : s.heap.get? S = some { cls := .type "list", dict := none, data := .seq #[vb, vb] c, slots := #[] })
    (hR : ∀ h' tk, (∀ b o, b ∉ wr → b ≠ S → s.heap.get? b = some o → h'.get? b = some o) → R (.ok (.ret vb)) { s with heap := h', toks := tk }) :
    codeAny (model prog w) A (.builtin "min.loop" ⟨[.ref I, .none, .ref S], []⟩) R s := by
  have hSw : S ∉ wr := fun z => hSf (W.sub _ z)
  refine codeAny_builtin F.entry_min_loop ?_
  rw [Around.under_plainId F.plain_min_loop _]
  show wpAny _ A.in1 (seqItems? (.ref S) >>= _) _ _ s
  refine wpAny_bind (wpAny_seqItems hS rfl ?_)
  show wpAny _ A.in1 (tryCatch (pyNext (.ref I)) _ >>= _) _ _ s
  refine wpAny_bind (wpAny_tryCatch (W.done s _ _ hst fun h' tk hk' => ?_))
  have hS' := hk' S _ hSw hS
  show wpAny _ A.in1 (updateSeq S (fun _ => #[]) >>= _) _ _ _
  refine wpAny_bind (wpAny_updateSeq hS' rfl (wpAny_bind (wpAny_letGo (wpAny_pure (hR _ tk fun b o hbw hbS e => ?_)))))
  exact (Heap.get?_update_other _ _ (Ne.symm hbS)).trans (hk' b o hbw e)
/-- the best of the first k + 1 -/
def bestOf (bt : Nat → Nat → Bool) : Nat → Nat
  | 0 => 0
  | k + 1 => if bt (k + 1) (bestOf bt k) = true then k + 1 else bestOf bt k
theorem min_rest (W : Walks prog w A.in1 I fp wr n P St) (hcmp : CmpIn h0 A.in1 P bt) (hSf : S ∉ fp) (cl : Clear h0 wr S) : ∀ (k j : Nat) (s : Shared) (vb : Value) (c : Nat), n = j + 1 + k →
    (∀ b o, h0.get? b = some o → s.heap.get? b = some o) → St (j + 1) s.heap → P (bestOf bt j) vb → s.heap.get? S = some { cls := .type "list", dict := none, data := .seq #[vb, vb] c, slots := #[] } →
    (∀ v (s' : Shared), s'.gens = s.gens → s'.drawn = s.drawn → s'.os = s.os → P (bestOf bt (n - 1)) v → (∀ b o, b ∉ wr → b ≠ S → s.heap.get? b = some o → s'.heap.get? b = some o) → R (.ok (.ret v)) s') →
    codeAny (model prog w) A (.builtin "min.loop" ⟨[.ref I, .none, .ref S], []⟩) R s := by
  intro k
  induction k with
  | zero =>
    intro j s vb c hn k0 hst hb hS hR
    have e : n = j + 1 := hn
    refine min_done W hSf (by rw [e]; exact hst) hS fun h' tk hk => hR vb _ rfl rfl rfl ?_ hk
    rw [e]
    exact hb
  | succ k ih =>
    intro j s vb c hn k0 hst hb hS hR
    refine min_step W hcmp hSf cl k0 (by omega) hst hb hS fun v' c' s' g d o kk st' hb' hS' => ?_
    refine ih (j + 1) s' v' c' (by omega) (fun b u e => kk b u (cl b u e).1 (cl b u e).2 (k0 b u e)) st' hb' hS' fun v s2 g2 d2 o2 hv k2 => ?_
    exact hR v s2 (g2.trans g) (d2.trans d) (o2.trans o) hv fun b u hw hs e => k2 b u hw hs (kk b u hw hs e)
theorem min_all (W : Walks prog w A.in1 I fp wr n P St) (hcmp : CmpIn h0 A.in1 P bt) (hSf : S ∉ fp) (cl : Clear h0 wr S) (hn : 0 < n) {s : Shared} {c : Nat} (k0 : ∀ b o, h0.get? b = some o → s.heap.get? b = some o) (hst : St 0 s.heap)
    (hS : s.heap.get? S = some { cls := .type "list", dict := none, data := .seq #[] c, slots := #[] })
    (hR : ∀ v (s' : Shared), s'.gens = s.gens → s'.drawn = s.drawn → s'.os = s.os → P (bestOf bt (n - 1)) v → (∀ b o, b ∉ wr → b ≠ S → s.heap.get? b = some o → s'.heap.get? b = some o) → R (.ok (.ret v)) s') :
    codeAny (model prog w) A (.builtin "min.loop" ⟨[.ref I, .none, .ref S], []⟩) R s := by
  have hSw : S ∉ wr := fun z => hSf (W.sub _ z)
  have hname : (toString "min" ++ toString ".loop" : String) = "min.loop" := by decide
  refine codeAny_builtin F.entry_min_loop ?_
  rw [Around.under_plainId F.plain_min_loop _]
  show wpAny _ A.in1 (seqItems? (.ref S) >>= _) _ _ s
  refine wpAny_bind (wpAny_seqItems hS rfl ?_)
  show wpAny _ A.in1 (tryCatch (pyNext (.ref I)) _ >>= _) _ _ s
  refine wpAny_bind (wpAny_tryCatch (W.item 0 s _ _ hn hst fun v h' tk hP hst' hk' => ?_))
  have hS' := hk' S _ hSw hS
  show wpAny _ A.in1 (updateSeq S (fun _ => #[v, v]) >>= _) _ _ _
  refine wpAny_bind (wpAny_updateSeq hS' rfl ?_)
  rw [hname]
  refine wpAny_pure ⟨plainId_quiet F.plain_min_loop _, min_rest W hcmp hSf cl (n - 1) 0 _ v _ (by omega) (fun b o e => ?_) (W.frame _ _ _ hst' fun b hbf o e => ?_) hP (Heap.get?_update_self _ hS' rfl) fun v' s2 g2 d2 o2 hP' hk2 => ?_⟩
  · exact (Heap.get?_update_other _ _ (Ne.symm (cl b o e).2)).trans (hk' b o (cl b o e).1 (k0 b o e))
  · exact (Heap.get?_update_other _ _ (fun z : S = b => hSf (by rw [z]; exact hbf))).trans e
  · exact hR v' s2 g2 d2 o2 hP' fun b o hbw hbS e => hk2 b o hbw hbS ((Heap.get?_update_other _ _ (Ne.symm hbS)).trans (hk' b o hbw e))
end
theorem call_min_in {prog : Program} {w : World} {A : Around} {E : Value → Shared → Prop} {s : Shared} {l : Addr} {its : Array Value} {bt : Nat → Nat → Bool} {Q : Value → Shared → Prop} (hh : A.handled = none) (hl : s.heap.IsList l its) (hn : 0 < its.size)
    (hcmp : CmpIn s.heap A.in1 (fun i v => its[i]? = some v) bt)
    (hQ : ∀ v (s' : Shared), s'.gens = s.gens → s'.drawn = s.drawn → s'.os = s.os → its[bestOf bt (its.size - 1)]? = some v → (∀ b o, s.heap.get? b = some o → s'.heap.get? b = some o) → Q v s') :
    wpAny (model prog w) A (call (.builtin "min") [.ref l]) Q E s := by
  have hname : (toString "min" ++ toString ".loop" : String) = "min.loop" := by decide
  refine call_function_tree F.kind_min F.plain_min F.entry_min (F.args_min1 _) ?_
  show wpAny _ A.in1 (Builtin.Builtins.bindParams "min" ["key", "default"] 0 ⟨[], []⟩ >>= _) _ _ s
  refine wpAny_bind (wpAny_of_eq (show Builtin.Builtins.bindParams "min" ["key", "default"] 0 ⟨[], []⟩ = pure [none, none] from rfl) ?_)
  refine wpAny_bind (wpAny_pure ?_)
  refine wpAny_bind (wpAny_pyIter_list hl ?_)
  refine wpAny_bind (wpAny_newObj_type ?_)
  have hll : l < s.heap.objs.size := by obtain ⟨_, ho, _⟩ := id hl; exact Heap.lt_size ho
  have hne : l ≠ s.heap.objs.size := Nat.ne_of_lt hll
  have z1 : (s.heap.push { cls := .type "list_iterator", data := .fields #[.ref l, .int 0 0] }).objs.size = s.heap.objs.size + 1 := Heap.size_push ..
  rw [hname]
  refine wpAny_pure ⟨plainId_quiet F.plain_min_loop _, min_all (h0 := s.heap) (n := its.size) (Walks.list (by simp [hh]) s.heap.objs.size l hne its) hcmp ?_ (fun b o e => ?_) hn (fun b o e => Heap.get?_push_of_some _ (Heap.get?_push_of_some _ e)) ⟨?_, ?_⟩ (Heap.get?_push_size _ rfl) fun v s' g d o hv hk => ?_⟩
  · simp only [List.mem_cons, List.not_mem_nil, or_false, not_or]
    rw [z1]
    exact ⟨Nat.succ_ne_self _, Nat.ne_of_gt (Nat.lt_succ_of_lt hll)⟩
  · have := Heap.lt_size e
    rw [z1]
    refine ⟨fun z => ?_, Nat.ne_of_lt (Nat.lt_succ_of_lt this)⟩
    have e2 : b = s.heap.objs.size := by simpa using z
    exact Nat.ne_of_lt this e2
  · exact ⟨_, Heap.get?_push_of_some _ (Heap.get?_push_size _ rfl), rfl, rfl⟩
  · exact (hl.push _).push _
  · refine hQ v s' g d o hv fun b o e => hk b o (fun z => ?_) ?_ (Heap.get?_push_of_some _ (Heap.get?_push_of_some _ e))
    · have e2 : b = s.heap.objs.size := by simpa using z
      exact Nat.ne_of_lt (Heap.lt_size e) e2
    · rw [z1]
      exact Nat.ne_of_lt (Nat.lt_succ_of_lt (Heap.lt_size e))
/-! ### tuples (total, place, text) -/
/-- v is the tuple (t, i, x) in h -/
def IsTrip (h : Heap) (v : Value) (t i : Int) (x : Str) : Prop := ∃ a t1 t2 t3, v = .ref a ∧ h.IsTuple a #[.int t t1, .int i t2, .str x t3]
def tripLt (p q : Int × Int × Str) : Bool := SeqAt.firstLt (fun j => match j with | 0 => p.1 == q.1 | 1 => p.2.1 == q.2.1 | _ => p.2.2 == q.2.2) (fun j => match j with | 0 => decide (p.1 < q.1) | 1 => decide (p.2.1 < q.2.1) | _ => decide (p.2.2.cps.toList < q.2.2.cps.toList)) false [0, 1, 2]
theorem tripLt_eq {p q : Int × Int × Str} (h : p.2.1 ≠ q.2.1) : tripLt p q = decide (p.1 < q.1 ∨ (p.1 = q.1 ∧ p.2.1 < q.2.1)) := by
  unfold tripLt SeqAt.firstLt
  by_cases e : p.1 = q.1
  · rw [if_pos (by simp [e])]
    unfold SeqAt.firstLt
    rw [if_neg (by simp [h])]
    simp [e]
  · rw [if_neg (by simp [e])]
    simp [e]
theorem rc_int {A : Around} {s : Shared} (x y : Int) (t u : Tok) (hu : A.units < cLine) : SeqAt.RcLt A s (.int x t) (.int y u) (decide (x < y)) := by
  have q := PySem.W.rcLt_alike (.int x) (.int y) A s (.int x t) (.int y u) [] [] (.int x t) (.int y u) rfl (fun z => nomatch z) (by simpa [PyData.depth] using hu)
  rwa [PySem.W.dataLt_int] at q
theorem rc_str {A : Around} {s : Shared} (x y : Str) (t u : Tok) (hu : A.units < cLine) : SeqAt.RcLt A s (.str x t) (.str y u) (decide (x.cps.toList < y.cps.toList)) := by
  have q := PySem.W.rcLt_alike (.str x) (.str y) A s (.str x t) (.str y u) [] [] (.str x t) (.str y u) rfl (fun z => nomatch z) (by simpa [PyData.depth] using hu)
  rwa [PySem.W.dataLt_str] at q
theorem rc_trip {A : Around} {s : Shared} {v u : Value} {t i t' i' : Int} {x x' : Str} (hv : IsTrip s.heap v t i x) (hw : IsTrip s.heap u t' i' x') (hu : A.units + 8 < cLine) : SeqAt.RcLt A s v u (tripLt (t, i, x) (t', i', x')) := by
  obtain ⟨a, t1, t2, t3, rfl, h1⟩ := hv
  obtain ⟨b, u1, u2, u3, rfl, h2⟩ := hw
  have hu1 : A.in1.units < cLine := by show A.units + 1 < cLine; omega
  refine SeqAt.RcLt.tuples h1 h2 (by omega) (fun j k1 k2 => ?_) fun j k1 k2 he => ?_
  · match j, k1 with
    | 0, _ => exact SeqAt.EqAt.int_int _ _ _ _
    | 1, _ => exact SeqAt.EqAt.int_int _ _ _ _
    | 2, _ => exact SeqAt.EqAt.str_str _ _ _ _
  · match j, k1 with
    | 0, _ => exact rc_int _ _ _ _ hu1
    | 1, _ => exact rc_int _ _ _ _ hu1
    | 2, _ => exact rc_str _ _ _ _ hu1
/-- the index of the least one, the first of equal ones -/
def leastAt (ts : List Int) : Nat := bestOf (fun i j => decide (ts.getD i 0 < ts.getD j 0)) (ts.length - 1)
/-- min(found), found a list of new tuples (total, place, text) -/
def rMinTrip (K : PySem.W.Frag) : List V → Hp → VK → Prop := fun vs H Q => ∃ (a : Addr) (ps : List Addr) (ts : List Int) (xs : List Str), vs = [.ref a] ∧ SqL K H a (ps.map V.ref) ∧ ps ≠ [] ∧ ts.length = ps.length ∧ xs.length = ps.length ∧
  (∀ (i : Nat) (p : Addr), ps[i]? = some p → SqT K H p [.int (ts.getD i 0), .int (i : Nat), .str (xs.getD i default)]) ∧ ∀ p, ps[leastAt ts]? = some p → Q (.ref p) H
theorem best_lt {bt : Nat → Nat → Bool} : ∀ k, bestOf bt k ≤ k
  | 0 => Nat.le_refl _
  | k + 1 => by
    unfold bestOf
    split
    · exact Nat.le_refl _
    · exact Nat.le_succ_of_le (best_lt k)
theorem best_congr {bt bt' : Nat → Nat → Bool} (h : ∀ i j, j < i → bt i j = bt' i j) : ∀ k, bestOf bt k = bestOf bt' k
  | 0 => rfl
  | k + 1 => by
    have e := best_congr h k
    unfold bestOf
    rw [h (k + 1) (bestOf bt k) (Nat.lt_succ_of_le (best_lt k)), e]
theorem cr_minTrip {X : Cx} (hc : X.calm = true) (hu : X.A.units + 64 < cLine) : CallR X (.builtin "min") (rMinTrip X.K) := by
  intro pins s σ H vs us Q I r h
  obtain ⟨a, ps, ts, xs, rfl, hq, hne, hl1, hl2, ht, q⟩ := h
  obtain ⟨its, rv, hl, _⟩ := I.list hq
  rw [Vals.ref1 r]
  have hlen : its.length = ps.length := by rw [← rv.length, List.length_map]
  have hpos : 0 < ps.length := List.length_pos_iff.mpr hne
  have item : ∀ (i : Nat) (v : Value), its[i]? = some v → ∃ p, ps[i]? = some p ∧ v = .ref p := fun i v hv => by
    have hi : i < ps.length := by rw [← hlen]; exact (List.getElem?_eq_some_iff.mp hv).1
    obtain ⟨u, h1, h2⟩ := rv.get (i := i) (x := V.ref ps[i]) (by rw [List.getElem?_map, List.getElem?_eq_getElem hi]; rfl)
    rw [hv] at h1
    cases h1
    exact ⟨ps[i], List.getElem?_eq_getElem hi, h2⟩
  have trip : ∀ (i : Nat) (v : Value) (h' : Heap), (∀ b o, s.heap.get? b = some o → h'.get? b = some o) → its[i]? = some v → IsTrip h' v (ts.getD i 0) (i : Nat) (xs.getD i default) := fun i v h' hk hv => by
    obtain ⟨p, hp, rfl⟩ := item i v hv
    obtain ⟨iu, ru, pt, _⟩ := I.tuple (ht i p hp)
    cases ru with
    | cons r1 ru =>
      cases ru with
      | cons r2 ru =>
        cases ru with
        | cons r3 ru =>
          cases ru
          obtain ⟨t1, rfl⟩ := r1
          obtain ⟨t2, rfl⟩ := r2
          obtain ⟨t3, rfl⟩ := r3
          obtain ⟨o, ho, hr⟩ := id pt
          exact ⟨p, t1, t2, t3, rfl, ⟨o, hk p o ho, hr⟩⟩
  refine call_min_in (bt := fun i j => tripLt (ts.getD i 0, (i : Nat), xs.getD i default) (ts.getD j 0, (j : Nat), xs.getD j default)) (I.ok.hd hc) hl.isList (by rw [List.size_toArray, hlen]; exact hpos)
    (fun i j vi vj s' hk hi hj => rc_trip (trip i vi _ hk (by rw [← List.getElem?_toArray]; exact hi)) (trip j vj _ hk (by rw [← List.getElem?_toArray]; exact hj)) (by show X.A.units + 1 + 8 < cLine; omega)) fun v s' g d o hv hk => ?_
  have eb : bestOf (fun i j => tripLt (ts.getD i 0, (i : Nat), xs.getD i default) (ts.getD j 0, (j : Nat), xs.getD j default)) (its.toArray.size - 1) = leastAt ts := by
    unfold leastAt
    rw [List.size_toArray, hlen, ← hl1]
    refine best_congr (fun i j hji => ?_) _
    rw [tripLt_eq (by show ((i : Nat) : Int) ≠ (j : Nat); omega)]
    refine decide_eq_decide.mpr ⟨fun z => ?_, fun z => .inl z⟩
    rcases z with z | ⟨_, z⟩
    · exact z
    · have z' : ((i : Nat) : Int) < (j : Nat) := z
      omega
  rw [eb, List.getElem?_toArray] at hv
  obtain ⟨p, hp, rfl⟩ := item _ v hv
  obtain ⟨h', g', d', t', o'⟩ := s'
  have e1 : g' = s.gens := g
  have e2 : d' = s.drawn := d
  have e3 : o' = s.os := o
  subst e1 e2 e3
  exact ⟨.ref p, H, I.kept (h' := h') (t' := t') hk, rfl, q p hp⟩
end Mw


set_option autoImplicit false
set_option Elab.async false
/-! plain mathematics: lists -/
namespace Mw
theorem nodup_len {α : Type} [DecidableEq α] : ∀ (l m : List α), l.Nodup → (∀ x, x ∈ l → x ∈ m) → l.length ≤ m.length
  | [], _, _, _ => Nat.zero_le _
  | x :: l, m, h, hs => by
    obtain ⟨h1, h2⟩ := List.nodup_cons.mp h
    have hx : x ∈ m := hs x List.mem_cons_self
    have ih := nodup_len l (m.erase x) h2 fun y hy => by
      have hne : y ≠ x := fun e => h1 (e ▸ hy)
      exact (List.mem_erase_of_ne hne).mpr (hs y (List.mem_cons_of_mem _ hy))
    rw [List.length_erase_of_mem hx] at ih
    have : 0 < m.length := List.length_pos_of_mem hx
    simp only [List.length_cons]
    omega
end Mw


set_option Elab.async false
set_option linter.all false
set_option maxRecDepth 100000
set_option maxHeartbeats 4000000
namespace Mw
open PySem PySem.Spec PyProof.Rows L2
/-! ### sets of texts: what stands, add -/
def txOf (e : Int × Value) : Str := match e.2 with | .str x _ => x | _ => default
def TxE (w : World) (e : Int × Value) : Prop := ∃ x tk, e.2 = Value.str x tk ∧ e.1 = hashStr w x
structure Tab (w : World) (es : Array (Int × Value)) (t : SetTable) (S : Str → Bool) : Prop where
  good : ∀ e ∈ es.toList, TxE w e
  nd : (es.toList.map txOf).Nodup
  mem : ∀ k, S k = true ↔ k ∈ es.toList.map txOf
  few : es.size < scanBound
  fits : t.fits es.size = true
  ris : Ris t.place.toList
  led : w.params.followText "set-order" = true ∨ t.led = true
/-- the set of texts at a: S its members -/
def SetSR (w : World) (h : Heap) (a : Addr) (S : Str → Bool) (n : Nat) : Prop := ∃ o es ep t, h.get? a = some o ∧ o.ExactSet ∧ o.data = .set es ep t ∧ es.size = n ∧ Tab w es t S
section
variable {P : Program} {w : World} {A : Around} {E : Value → Shared → Prop} {s : Shared} {a : Addr} {S : Str → Bool} {n : Nat}
abbrev SK (P : Program) (w : World) : PySem.KeyKind P w Str := PySem.strKind P w
theorem sk_is (x : Str) (t : Tok) : (SK P w).is x (.str x t) = true := by
  show Value.isStrOf x (.str x t) = true
  simp [Value.isStrOf]
theorem TxE.is {e : Int × Value} (g : TxE w e) (k : Str) : (SK P w).is k e.2 = true ↔ txOf e = k := by
  obtain ⟨x, t, h1, _⟩ := g
  unfold txOf
  rw [h1]
  show Value.isStrOf k (.str x t) = true ↔ x = k
  simp [Value.isStrOf]
theorem Tab.elems {es : Array (Int × Value)} {t : SetTable} (T : Tab w es t S) : ElemsOf (SK P w) es.toList := fun e he => by
  obtain ⟨x, tk, h1, h2⟩ := T.good e he
  exact ⟨⟨x, by rw [h1]; exact sk_is x tk, h2⟩, by rw [h1]; rfl⟩
theorem Tab.found {es : Array (Int × Value)} {t : SetTable} (T : Tab w es t S) (k : Str) : S k = true ↔ ∃ e ∈ es.toList, (SK P w).is k e.2 = true := by
  rw [T.mem k, List.mem_map]
  exact ⟨fun ⟨e, he, q⟩ => ⟨e, he, ((T.good e he).is k).2 q⟩, fun ⟨e, he, q⟩ => ⟨e, he, ((T.good e he).is k).1 q⟩⟩
theorem Tab.perm {es es' : Array (Int × Value)} {t t' : SetTable} (T : Tab w es t S) (p : es'.toList.Perm es.toList) (hf : t'.fits es'.size = true) (hr : Ris t'.place.toList) (hl : t'.led = t.led) : Tab w es' t' S where
  good := fun e he => T.good e (p.mem_iff.mp he)
  nd := (p.map txOf).nodup_iff.mpr T.nd
  mem := fun k => (T.mem k).trans (p.map txOf).mem_iff.symm
  few := by
    have e : es'.size = es.size := by rw [← Array.length_toList, p.length_eq, Array.length_toList]
    rw [e]
    exact T.few
  fits := hf
  ris := hr
  led := T.led.imp id fun z => by rw [hl]; exact z
/-- the store behind an add, and the growing where the table is too full -/
theorem add_store {g : Bool → Sem Unit} (hg : ∀ (b : Bool) (s1 : Shared) (Q' : Unit → Shared → Prop), Q' () s1 → wpAny (model P w) A (g b) Q' E s1)
    {o : Obj} {es : Array (Int × Value)} {ep : Nat} {t : SetTable} (ho : s.heap.get? a = some o) (hex : o.ExactSet) (hd : o.data = .set es ep t)
    {es1 : Array (Int × Value)} {t2 : SetTable} {S' : Str → Bool} (T : Tab w es1 t2 S') {wasDummy : Bool} {R : Option Bool → Shared → Prop}
    (hR : ∀ h', Heap.SameBut a s.heap h' → SetSR w h' a S' es1.size → R (some true) { s with heap := h' }) :
    wpAny (model P w) A (do
        storeSet a es1 t2
        if (!wasDummy && t2.tooFull) = true then do
            g (relayAll t2 es1 (SetTable.grown es1.size)).2.2
            storeSet a (relayAll t2 es1 (SetTable.grown es1.size)).1 (relayAll t2 es1 (SetTable.grown es1.size)).2.1
            pure (some true)
          else pure (some true)) R E s := by
  refine wpAny_bind (wpAny_storeSet_of ho hd ?_ (fits_of_scanBound T.few))
  have ho1 := store_at (es' := es1) (t' := t2) ho hd
  have sb1 := Heap.SameBut.update s.heap a (Obj.putSet es1 t2)
  by_cases c : (!wasDummy && t2.tooFull) = true
  · rw [if_pos c]
    have T3 := T.perm (relayAll_perm t2 es1 (SetTable.grown es1.size)) (relayAll_fits t2 es1 (SetTable.grown es1.size)) (relayAll_ris t2 es1 (SetTable.grown es1.size)) (relayAll_led t2 es1 (SetTable.grown es1.size))
    have hsz : (relayAll t2 es1 (SetTable.grown es1.size)).1.size = es1.size := by
      have pm := relayAll_perm t2 es1 (SetTable.grown es1.size)
      rw [← Array.length_toList, pm.length_eq, Array.length_toList]
    refine wpAny_bind (hg _ _ _ ?_)
    refine wpAny_bind (wpAny_storeSet_of ho1 rfl ?_ (fits_of_scanBound T3.few))
    exact wpAny_pure (hR _ (sb1.trans (Heap.SameBut.update _ a _)) ⟨_, _, _, _, store_at ho1 rfl, hex, rfl, hsz, T3⟩)
  · rw [if_neg c]
    exact wpAny_pure (hR _ sb1 ⟨_, es1, _, t2, ho1, hex, rfl, rfl, T⟩)
theorem add_text {k : Str} {tk : Tok} {Q : Bool → Shared → Prop} (R : SetSR w s.heap a S n) (room : n + 1 < scanBound)
    (hQ : ∀ h', Heap.SameBut a s.heap h' → SetSR w h' a (fun j => S j || decide (j = k)) (if S k = true then n else n + 1) → Q (!S k) { s with heap := h' }) :
    wpAny (model P w) A (setAddHashed a (.str k tk) ((SK P w).hash k)) Q E s := by
  obtain ⟨o, es, ep, t, ho, hex, hd, hn, T⟩ := R
  have hsc : (Value.str k tk).scannable = true := rfl
  unfold setAddHashed setAddHashedIn
  refine wpAny_holding (wpAny_bind (wpAny_setState_of ho hd T.fits ?_))
  dsimp only
  rw [byScan_of hsc T.few (T.elems (P := P))]
  simp only [↓reduceIte]
  unfold setAddByScan
  refine wpAny_bind ?_
  refine wpAny_bind (wpAny_rule ?_)
  refine wpAny_bind (wpAny_setScan_of (knd := SK P w) (sk_is k tk) ho hd T.fits (T.elems (P := P)) ?_)
  cases hfi : List.findIdx? (fun e => (SK P w).is k e.2) es.toList with
  | some j =>
    dsimp only
    obtain ⟨hj, pj, _⟩ := List.findIdx?_eq_some_iff_getElem.mp hfi
    have hSk : S k = true := (T.found (P := P) k).2 ⟨es.toList[j], List.getElem_mem hj, pj⟩
    have same : (fun j => S j || decide (j = k)) = S := by
      funext j
      by_cases e : j = k
      · rw [e, hSk]; rfl
      · simp [e]
    rw [same, if_pos hSk, hSk] at hQ
    exact wpAny_pure (wpAny_pure (hQ s.heap (Heap.SameBut.refl a s.heap) ⟨o, es, ep, t, ho, hex, hd, hn, T⟩))
  | none =>
    dsimp only
    have hSk : S k = false := by
      cases q : S k with
      | false => rfl
      | true =>
        obtain ⟨e, he, z⟩ := (T.found (P := P) k).1 q
        have c := List.findIdx?_eq_none_iff.mp hfi e he
        rw [z] at c
        cases c
    have hnk : k ∉ es.toList.map txOf := fun z => by
      rw [(T.mem k).2 z] at hSk
      cases hSk
    have hgw : ∀ (b : Bool) {s1 : Shared} {Q' : Unit → Shared → Prop}, Q' () s1 → wpAny (model P w) A (match b with | true => rule "set.scan.the-table-gave-way" | false => pure ()) Q' E s1 :=
      fun b s1 Q' q => by cases b <;> first | exact wpAny_pure q | exact wpAny_rule q
    have pm := layNew_perm t es ((SK P w).hash k) (.str k tk)
    have hf1 := layNew_fits t es ((SK P w).hash k) (.str k tk)
    have hr1 := layNew_ris t es ((SK P w).hash k) (.str k tk) T.ris
    have hl1 := layNew_led t es ((SK P w).hash k) (.str k tk)
    generalize layNew t es ((SK P w).hash k) (.str k tk) = Z at pm hf1 hr1 hl1 ⊢
    obtain ⟨es1, t1, wasDummy, gave⟩ := Z
    dsimp only at pm hf1 hr1 hl1 ⊢
    rw [Array.toList_push] at pm
    have pc : es1.toList.Perm (((SK P w).hash k, Value.str k tk) :: es.toList) := pm.trans (List.perm_append_singleton _ _)
    have pk : (es1.toList.map txOf).Perm (k :: es.toList.map txOf) := pc.map txOf
    have hsz : es1.size = n + 1 := by rw [← Array.length_toList, pc.length_eq, List.length_cons, Array.length_toList, hn]
    have T1 : ∀ t2 : SetTable, t2.fits es1.size = true → Ris t2.place.toList → t2.led = t1.led → Tab w es1 t2 (fun j => S j || decide (j = k)) := fun t2 hf2 hr2 hl2 =>
      { good := fun e he => by
          rcases List.mem_cons.mp (pc.mem_iff.mp he) with z | z
          · rw [z]; exact ⟨k, tk, rfl, rfl⟩
          · exact T.good e z
        nd := pk.nodup_iff.mpr (List.nodup_cons.mpr ⟨hnk, T.nd⟩)
        mem := fun i => by
          rw [Bool.or_eq_true, decide_eq_true_eq, T.mem i, pk.mem_iff, List.mem_cons]
          exact Or.comm
        few := by rw [hsz]; exact room
        fits := hf2
        ris := hr2
        led := T.led.imp id fun z => by rw [hl2, hl1]; exact z }
    have fin : ∀ h', Heap.SameBut a s.heap h' → SetSR w h' a (fun j => S j || decide (j = k)) es1.size → Q true { s with heap := h' } := fun h' sb r => by
      have q := hQ h' sb
      rw [hSk] at q
      rw [hsz] at r
      exact q r
    refine wpAny_bind (hgw _ ?_)
    have hg3 : ∀ (b : Bool) (s1 : Shared) (Q' : Unit → Shared → Prop), Q' () s1 → wpAny (model P w) A (match b with | true => rule "set.scan.the-table-gave-way" | false => pure ()) Q' E s1 := fun b s1 Q' q => hgw b q
    split
    · refine wpAny_bind ?_
      rw [hashByValue_scannable 8 hsc]
      refine wpAny_pure ?_
      refine add_store hg3 ho hex hd (T1 _ ?_ ?_ ?_) fun h' sb r => ?_
      · first | (split <;> first | exact hf1 | exact SetTable.fits_plain_off hf1) | exact hf1
      · first | (split <;> exact hr1) | exact hr1
      · first | (split <;> rfl) | rfl
      · dsimp only; exact wpAny_pure (fin h' sb r)
    · refine wpAny_bind (wpAny_pure ?_)
      simp only [↓reduceIte]
      refine add_store hg3 ho hex hd (T1 _ hf1 hr1 rfl) fun h' sb r => ?_
      dsimp only; exact wpAny_pure (fin h' sb r)
/-! ### set(text) -/
/-- the members behind i signs -/
def memAt (l : List Nat) (i : Nat) : Str → Bool := fun k => decide (∃ c ∈ l.take i, k = tx [c])
theorem memAt_succ {l : List Nat} {i c : Nat} (h : l[i]? = some c) : (fun j => memAt l i j || decide (j = tx [c])) = memAt l (i + 1) := by
  have ht : l.take (i + 1) = l.take i ++ [c] := by
    rw [List.take_succ, h]
    rfl
  funext k
  unfold memAt
  rw [ht, ← Bool.decide_or]
  refine decide_eq_decide.mpr ⟨fun z => ?_, fun ⟨d, hd, e⟩ => ?_⟩
  · rcases z with ⟨d, hd, e⟩ | e
    · exact ⟨d, List.mem_append_left _ hd, e⟩
    · exact ⟨c, by simp, e⟩
  · rcases List.mem_append.mp hd with z | z
    · exact .inl ⟨d, z, e⟩
    · exact .inr (by rw [e, List.mem_singleton.mp z])
theorem SetSR.keep {h h' : Heap} (R : SetSR w h a S n) (k : ∀ o, h.get? a = some o → h'.get? a = some o) : SetSR w h' a S n := by
  obtain ⟨o, es, ep, t, ho, r⟩ := R
  exact ⟨o, es, ep, t, k o ho, r⟩
theorem text_loop {R : Result → Shared → Prop} {I : Addr} {l : List Nat} {fp wr : List Addr} {St : Nat → Heap → Prop} (W : Walks P w A.in1 I fp wr l.length (SignAt (tx l)) St) (hSf : a ∉ fp) (hb : l.length + 1 < scanBound) :
    ∀ (k i : Nat) (s : Shared), i + k = l.length → St i s.heap → (∃ n, n ≤ i ∧ SetSR w s.heap a (memAt l i) n) →
      (∀ (h' : Heap) tk, (∀ b o, b ≠ a → b ∉ wr → s.heap.get? b = some o → h'.get? b = some o) → (∃ n, SetSR w h' a (memAt l l.length) n) → R (.ok (.ret .none)) { s with heap := h', toks := tk }) →
      codeAny (model P w) A (.builtin "set.update.loop" ⟨[.ref a, .ref I], []⟩) R s := by
  have hSw : a ∉ wr := fun h => hSf (W.sub _ h)
  intro k
  induction k with
  | zero =>
    intro i s hik hst ⟨n, hn, hS⟩ hR
    have e : i = l.length := by omega
    subst e
    refine codeAny_builtin PyProof.Rows.F.entry_set_update_loop ?_
    rw [Around.under_plainId PyProof.Rows.F.plain_set_update_loop _]
    show wpAny _ A.in1 (pyNext (.ref I) >>= _) _ _ s
    refine wpAny_bind (W.done s _ _ hst fun h' tk hk => ?_)
    show wpAny _ A.in1 (ret Value.none) _ _ _
    exact wpAny_pure (hR h' tk (fun b o _ hw e => hk b o hw e) ⟨n, hS.keep fun o e => hk a o hSw e⟩)
  | succ k ih =>
    intro i s hik hst ⟨n, hn, hS⟩ hR
    refine codeAny_builtin PyProof.Rows.F.entry_set_update_loop ?_
    rw [Around.under_plainId PyProof.Rows.F.plain_set_update_loop _]
    show wpAny _ A.in1 (pyNext (.ref I) >>= _) _ _ s
    refine wpAny_bind (W.item i s _ _ (by omega) hst fun v h' tk hv hst' hk => ?_)
    obtain ⟨c, u, hc, rfl⟩ := hv
    have hcl : l[i]? = some c := by rw [← List.getElem?_toArray]; exact hc
    show wpAny _ A.in1 (holding [Value.str (tx [c]) u] (setAdd a (.str (tx [c]) u)) >>= _) _ _ _
    refine wpAny_bind (wpAny_holding ?_)
    unfold setAdd
    refine wpAny_holding ?_
    refine wpAny_bind ((SK P w).pyHash (k := tx [c]) (sk_is _ _) ?_)
    refine add_text (s := { s with heap := h', toks := tk + 1 }) (hS.keep fun o e => hk a o hSw e) (by omega) fun h2 sb hS2 => ?_
    rw [memAt_succ hcl] at hS2
    refine wpAny_pure ⟨plainId_quiet PyProof.Rows.F.plain_set_update_loop _, ih (i + 1) _ (by omega) (W.frame _ _ _ hst' fun b hbf o e => (sb.2 b (fun z => hSf (z ▸ hbf))).trans e) ⟨_, ?_, hS2⟩ fun h3 tk3 hk3 hS3 => ?_⟩
    · split <;> omega
    · exact hR h3 tk3 (fun b o hba hw e => hk3 b o hba hw ((sb.2 b hba).trans (hk b o hw e))) hS3
theorem walks_text {I : Addr} {x : Str} {t : Tok} (hh : A.handled = none) : Walks P w A I [I] [I] x.cps.size (SignAt x) (fun i h => h.IsStrIter I (strIterType x) x t i) := by
  unfold strIterType
  split
  · exact Walks.strAscii hh I x t
  · exact Walks.strWide hh I x t
theorem sub_str_set : isSubtype (.type "str") (.type "set") = pure false := by rw [isSubtype_type]; kernel_rfl
theorem sub_str_frozenset : isSubtype (.type "str") (.type "frozenset") = pure false := by rw [isSubtype_type]; kernel_rfl
set_option maxRecDepth 100000 in
set_option maxHeartbeats 3200000 in
theorem call_set_text {l : List Nat} {t : Tok} {Q : Value → Shared → Prop} (hh : A.handled = none) (hb : l.length + 1 < scanBound)
    (h : ∀ (h' : Heap) (tk : Nat) n, SetSR w h' s.heap.objs.size (memAt l l.length) n → (∀ b o, s.heap.get? b = some o → h'.get? b = some o) → Q (.ref s.heap.objs.size) { s with heap := h', toks := tk }) :
    wpAny (model P w) A (call (.type "set") [.str (tx l) t]) Q E s := by
  obtain ⟨c, tl, hmro⟩ := F.called_set.mro
  have hmade := F.called_set.made
  have hsub := F.called_set.sub
  refine wpAny_call (codeAny_of_tree ?_)
  show wpAny _ _ (callAny (.type "set") _) _ _ _
  refine wpAny_pure ⟨Code.quiet_builtin _ (by decide +kernel), codeAny_builtin F.entry_type_call ?_⟩
  rw [Around.under_plain (weight_type_call_type "set" [.str (tx l) t] []) rfl]
  have h1 := F.called_set.notType
  have h2 := F.called_set.canCreate
  have hct := F.typeCall_set_1 (.str (tx l) t)
  repeat (any_goals (first | assumption | wp_step))
  refine codeAny_mono (code_set_led1 (.str (tx l) t) (E := E) (Q₁ := fun obj s1 => obj = .ref s.heap.objs.size ∧ s1 = { s with heap := s.heap.push { cls := .type "set", dict := none, data := .set #[] 0 (.fresh 0 0 (!w.params.followText "set-order")) } }) ⟨rfl, rfl⟩) fun r s1 hr => ?_
  cases r with
  | error e => exact hr
  | ok fl =>
    cases fl with
    | ret obj =>
      obtain ⟨rfl, rfl⟩ := hr
      have hS : (s.heap.push { cls := .type "set", dict := none, data := .set #[] 0 (.fresh 0 0 (!w.params.followText "set-order")) }).get? s.heap.objs.size = some { cls := .type "set", dict := none, data := .set #[] 0 (.fresh 0 0 (!w.params.followText "set-order")) } := Heap.get?_push_size _ rfl
      have hT : Shared.TypeIs { s with heap := s.heap.push { cls := .type "set", dict := none, data := .set #[] 0 (.fresh 0 0 (!w.params.followText "set-order")) } } (.ref s.heap.objs.size) "set" := ⟨_, hS, rfl⟩
      have hz1 : (s.heap.push { cls := .type "set", dict := none, data := .set #[] 0 (.fresh 0 0 (!w.params.followText "set-order")) }).objs.size = s.heap.objs.size + 1 := Heap.size_push ..
      have hli := F.called_set.init.lookup
      have hbi := F.called_set.init.bind (.ref s.heap.objs.size)
      repeat (any_goals (first | assumption | wp_step))
      refine codeAny_mono (codeAny_call_builtin (R := wants (fun r s2 => r = .none ∧ ∃ h' tk n, s2 = { s with heap := h', toks := tk } ∧ SetSR w h' s.heap.objs.size (memAt l l.length) n ∧
          (∀ b o, s.heap.get? b = some o → h'.get? b = some o)) E) F.called_set.init.plain F.entry_set_init (check_set_init_1 hT ?_)) fun r2 s2 hr2 => ?_
      · have hsls := sub_str_set
        have hslf := sub_str_frozenset
        have hne : (Value.type "str" == Value.type "dict") = false := by decide
        unfold Builtin.«set.__init__» noKeywords Builtin.Frozenset.updateFrom
        generalize hPI : pyIter = PI
        wp_walk
        subst hPI
        refine wpAny_pyIter_strU ?_
        refine wpAny_bind (wpAny_runValue ?_)
        have hh3 : A.in1.in1.in1.handled = none := by simp [hh]
        have hsz : (tx l).cps.size = l.length := by simp [tx]
        have W := walks_text (P := P) (w := w) (A := A.in1.in1.in1) (I := s.heap.objs.size + 1) (x := tx l) (t := t) hh3
        rw [hsz] at W
        rw [hz1]
        refine text_loop W (a := s.heap.objs.size) (by simp) hb l.length 0 _ (by omega) ⟨_, by rw [← hz1]; exact Heap.get?_push_size _ rfl, rfl, rfl⟩ ⟨0, Nat.le_refl _, ?_⟩ fun h' tk hk ⟨n, hn⟩ => ?_
        · refine ⟨_, #[], 0, _, Heap.get?_push_of_some _ hS, ⟨rfl, rfl, rfl⟩, rfl, rfl, ?_⟩
          exact { good := fun e he => by simp at he
                  nd := by simp
                  mem := fun k => by simp [memAt]
                  few := by decide
                  fits := by rfl
                  ris := List.Pairwise.nil
                  led := by
                    show _ ∨ (!w.params.followText "set-order") = true
                    cases w.params.followText "set-order"
                    · exact .inr rfl
                    · exact .inl rfl }
        · show wpAny _ _ _ _ _ _
          refine wpAny_pure ?_
          show wpAny _ _ (ret Value.none) _ _ _
          refine wpAny_pure ⟨rfl, h', tk, n, rfl, hn, fun b o e => ?_⟩
          have hlt := Heap.lt_size e
          exact hk b o (Nat.ne_of_lt hlt) (fun z => Nat.ne_of_lt (Nat.lt_succ_of_lt hlt) (List.mem_singleton.mp z)) (Heap.get?_push_of_some _ (Heap.get?_push_of_some _ e))
      · cases r2 with
        | error e => exact hr2
        | ok fl2 =>
          cases fl2 with
          | ret r =>
            obtain ⟨rfl, h', tk, n, rfl, hS', hk'⟩ := hr2
            repeat (any_goals (first | assumption | wp_step))
            exact h _ _ _ hS' hk'
          | _ => exact hr2.elim
    | _ => exact hr.elim
end
end Mw


set_option Elab.async false
set_option linter.all false
set_option maxRecDepth 100000
set_option maxHeartbeats 4000000
namespace Mw
open PySem PySem.Spec PyProof.Rows L2
/-! ### sorted(set of texts) -/
section
variable {P : Program} {w : World} {A : Around} {E : Value → Shared → Prop} {s : Shared} {a : Addr} {S : Str → Bool} {n : Nat}
theorem strs_of : ∀ (l : List Value), (∀ v ∈ l, ∃ k tk, v = Value.str k tk) → StrsAre l (l.map fun v => match v with | .str x _ => x | _ => default)
  | [], _ => .nil
  | v :: l, h => by
    obtain ⟨k, tk, rfl⟩ := h v List.mem_cons_self
    exact .cons k tk (strs_of l fun u hu => h u (List.mem_cons_of_mem _ hu))
theorem sorted_setS {Q : Value → Shared → Prop} (R : SetSR w s.heap a S n) (hh : A.handled = none) (h64 : n < 64)
    (hQ : ∀ s' p (out : Array Value) (c : Nat) (ys : List Str), (∀ b o, s.heap.get? b = some o → s'.heap.get? b = some o) → s'.gens = s.gens → s'.os = s.os → s.heap.objs.size ≤ p →
      s'.heap.get? p = some (seqObj "list" out c) → StrsAre out.toList ys → sortedS ys = true → ys.Nodup → (∀ k, k ∈ ys ↔ S k = true) → ys.length = n → Q (.ref p) s') :
    wpAny (model P w) A (call (.builtin "sorted") [.ref a]) Q E s := by
  obtain ⟨o, es, ep, t, ho, hex, hd, hn, T⟩ := R
  refine Calls.call_function_entry kind_sorted plain_sorted entry_sorted (args_sorted1 _) ?_
  unfold Builtin.«sorted»
  refine wpAny_bind (m := checkCount "sorted" 1 1 _) (wpAny_pure ?_)
  refine wpAny_bind (collect_set (A := A.in1) hh ⟨o, ho, hex.1, hd⟩ T.fits T.few T.ris T.led fun s1 vs k1 hz g1 o1 pm => ?_)
  have hvl : vs.length = n := by rw [pm.length_eq, List.length_map, Array.length_toList]; exact hn
  have hI := strs_of vs fun v hv => by
    obtain ⟨e, he, q⟩ := List.mem_map.mp (pm.mem_iff.mp hv)
    obtain ⟨k, tk, h1, _⟩ := T.good e he
    exact ⟨k, tk, by rw [← q]; exact h1⟩
  generalize hss : (vs.map fun v => match v with | .str x _ => x | _ => (default : Str)) = ss at hI
  have pk : ss.Perm (es.toList.map txOf) := by
    rw [← hss]
    have q := pm.map (fun v => match v with | .str x _ => x | _ => (default : Str))
    rw [List.map_map] at q
    exact q
  refine wpAny_bind (wpAny_newList ?_ (by rw [hvl, sizeLine_eq]; omega))
  have hoL : (s1.heap.push (seqObj "list" vs.toArray 0)).get? s1.heap.objs.size = some (seqObj "list" vs.toArray 0) := Heap.get?_push_size _ rfl
  refine wpAny_bind (wpAny_holding (wpAny_call_entry slot_list_sort ⟨_, hoL, rfl⟩ entry_list_sort (list_sort_treeK PyProof.Rows.strKind_oneLt hoL hI.keysOf (fun v1 v2 rest e => keyKind_strs (by rw [← e]; exact hI)) (by rw [hvl]; exact h64) fun st' a1 a2 => ⟨_, rfl, ?_⟩) (args_list_sort _)))
  obtain ⟨ys, b1, b2, b3⟩ := sorted_out_str hI a1 a2
  obtain ⟨c, hc⟩ := sortedHeap_at (vs := vs) (out := (arrOf st').map (·.2)) hoL
  have pn : ys.Perm (es.toList.map txOf) := b2.trans pk
  refine wpAny_pure ⟨_, rfl, hQ _ s1.heap.objs.size _ c ys (fun b u e => ?_) g1 o1 hz hc b1 b3 (pn.nodup_iff.mpr T.nd) (fun k => by rw [pn.mem_iff, ← T.mem k]) ?_⟩
  · have q := k1 b u e
    have hlt := Heap.lt_size q
    show (sortedHeap (s1.heap.push (seqObj "list" vs.toArray 0)) s1.heap.objs.size vs _).get? b = some u
    rw [sortedHeap_old (Nat.ne_of_lt hlt) (by rw [size_push']; exact Nat.lt_succ_of_lt hlt)]
    exact Heap.get?_push_of_some _ q
  · rw [pn.length_eq, List.length_map, Array.length_toList]; exact hn
end
/-! ### the letters of a text, ascending -/
def letters (l : List Nat) : List Nat := alphaL.filter fun c => decide (c ∈ l)
theorem ltCps_sing (a b : Nat) : ltCps [a] [b] = decide (a < b) := by
  rw [ltCps_eq]
  by_cases h : a < b
  · rw [decide_eq_true h]
    exact decide_eq_true (List.cons_lt_cons_iff.mpr (.inl h))
  · rw [decide_eq_false h]
    refine decide_eq_false fun z => ?_
    rcases List.cons_lt_cons_iff.mp z with z | ⟨_, z⟩
    · exact h z
    · exact absurd z (by simp)
theorem rising_le : ∀ (p : Nat) (cs : List Nat), risingS (tx [p]) (cs.map fun c => tx [c]) = true → (p :: cs).Pairwise (· ≤ ·)
  | p, [], _ => by simp
  | p, c :: cs, h => by
    have h' : (!ltCps [c] [p] && risingS (tx [c]) (cs.map fun c => tx [c])) = true := h
    rw [Bool.and_eq_true, ltCps_sing] at h'
    obtain ⟨h1, h2⟩ := h'
    have hpc : p ≤ c := by
      have : ¬ c < p := by simpa using h1
      omega
    have ih := rising_le c cs h2
    refine List.pairwise_cons.mpr ⟨fun d hd => ?_, ih⟩
    rcases List.mem_cons.mp hd with z | z
    · rw [z]; exact hpc
    · exact Nat.le_trans hpc ((List.pairwise_cons.mp ih).1 d z)
theorem sorted_le (cs : List Nat) (h : sortedS (cs.map fun c => tx [c]) = true) : cs.Pairwise (· ≤ ·) := by
  cases cs with
  | nil => simp
  | cons p cs => exact rising_le p cs h
theorem lt_of_le_nd : ∀ l : List Nat, l.Pairwise (· ≤ ·) → l.Nodup → l.Pairwise (· < ·)
  | [], _, _ => List.Pairwise.nil
  | x :: l, h, d => by
    obtain ⟨h1, h2⟩ := List.pairwise_cons.mp h
    obtain ⟨d1, d2⟩ := List.nodup_cons.mp d
    refine List.pairwise_cons.mpr ⟨fun y hy => ?_, lt_of_le_nd l h2 d2⟩
    have b : x ≠ y := fun z => d1 (z ▸ hy)
    have := h1 y hy
    omega
theorem eq_of_lt : ∀ (l m : List Nat), l.Pairwise (· < ·) → m.Pairwise (· < ·) → (∀ x, x ∈ l ↔ x ∈ m) → l = m
  | [], [], _, _, _ => rfl
  | [], y :: m, _, _, h => by have := (h y).2 List.mem_cons_self; simp at this
  | x :: l, [], _, _, h => by have := (h x).1 List.mem_cons_self; simp at this
  | x :: l, y :: m, hl, hm, h => by
    obtain ⟨a1, a2⟩ := List.pairwise_cons.mp hl
    obtain ⟨b1, b2⟩ := List.pairwise_cons.mp hm
    have exy : x = y := by
      rcases List.mem_cons.mp ((h x).1 List.mem_cons_self) with z | z
      · exact z
      · rcases List.mem_cons.mp ((h y).2 List.mem_cons_self) with z2 | z2
        · exact z2.symm
        · have := b1 x z
          have := a1 y z2
          omega
    subst exy
    rw [eq_of_lt l m a2 b2 fun z => ⟨fun hz => ?_, fun hz => ?_⟩]
    · rcases List.mem_cons.mp ((h z).1 (List.mem_cons_of_mem _ hz)) with e | e
      · exact absurd (a1 z hz) (by rw [e]; exact Nat.lt_irrefl _)
      · exact e
    · rcases List.mem_cons.mp ((h z).2 (List.mem_cons_of_mem _ hz)) with e | e
      · exact absurd (b1 z hz) (by rw [e]; exact Nat.lt_irrefl _)
      · exact e
theorem alpha_lt : alphaL.Pairwise (· < ·) := by decide
theorem letters_lt (l : List Nat) : (letters l).Pairwise (· < ·) := alpha_lt.filter _
theorem mem_letters {l : List Nat} {c : Nat} : c ∈ letters l ↔ c ∈ alphaL ∧ c ∈ l := by simp [letters]
theorem sorted_letters {l : List Nat} {ys : List Str} (hl : ∀ c ∈ l, c ∈ alphaL) (h1 : sortedS ys = true) (h2 : ys.Nodup) (h3 : ∀ k, k ∈ ys ↔ ∃ c ∈ l, k = tx [c]) : ys = (letters l).map fun c => tx [c] := by
  obtain ⟨cs, rfl⟩ : ∃ cs : List Nat, ys = cs.map fun c => tx [c] := by
    refine ⟨ys.map fun y => y.cps.toList.headD 0, ?_⟩
    rw [List.map_map]
    refine (List.map_id _).symm.trans (List.map_congr_left fun y hy => ?_)
    obtain ⟨c, _, rfl⟩ := (h3 y).1 hy
    rfl
  have hinj : ∀ c d : Nat, tx [c] = tx [d] → c = d := fun c d e => (List.cons.inj (tx_inj e)).1
  have hm : ∀ c, c ∈ cs ↔ c ∈ l := fun c => by
    rw [show c ∈ cs ↔ tx [c] ∈ cs.map fun c => tx [c] from ⟨fun z => List.mem_map.mpr ⟨c, z, rfl⟩, fun z => by
      obtain ⟨d, hd, e⟩ := List.mem_map.mp z
      rw [← hinj d c e]
      exact hd⟩, h3]
    exact ⟨fun ⟨d, hd, e⟩ => by rw [hinj c d e]; exact hd, fun z => ⟨c, z, rfl⟩⟩
  have hnd : cs.Nodup := List.Pairwise.of_map _ (fun c d (h : tx [c] ≠ tx [d]) e => h (by rw [e])) h2
  rw [eq_of_lt cs (letters l) (lt_of_le_nd cs (sorted_le cs h1) hnd) (letters_lt l) fun c => by rw [hm, mem_letters]; exact ⟨fun z => ⟨hl c z, z⟩, fun z => z.2⟩]
/-! ### by values -/
def SetSO (w : World) (a : Addr) (S : Str → Bool) (n : Nat) : HO := .ext fun h => SetSR w h a S n
section
variable {X : Cx}
theorem cr_setS (hc : X.calm = true) : CallR X (.type "set") (fun xs H Q => ∃ l : List Nat, xs = [.str (tx l)] ∧ l.length ≤ 1000 ∧ (∀ c ∈ l, c ∈ alphaL) ∧ ∀ p n, H p = none → Q (.ref p) (upd H p (SetSO X.w p (memAt l l.length) n))) := by
  intro pins s σ H xs us Q I rs h
  obtain ⟨l, rfl, hl, ha, h⟩ := h
  cases rs with
  | cons r1 rs =>
    cases rs
    obtain ⟨t, rfl⟩ := r1
    refine call_set_text (I.ok.hd hc) (by show l.length + 1 < 4096; omega) fun h' tk n R hk => ?_
    refine ⟨.ref _, _, I.laid (o := SetSO X.w s.heap.objs.size (memAt l l.length) n) hk (Nat.le_refl _) ⟨R, ?_, fun h1 h2 R1 k => R1.keep k⟩, rfl, h _ n (I.hok.fresh (Nat.le_refl _))⟩
    obtain ⟨o, _, _, _, ho, _⟩ := R
    exact ⟨o, ho⟩
theorem cr_sortedSS (hc : X.calm = true) : CallR X (.builtin "sorted") (fun vs H Q => ∃ (a : Addr) (l : List Nat) (n : Nat), vs = [.ref a] ∧ H a = some (SetSO X.w a (memAt l l.length) n) ∧ (∀ c ∈ l, c ∈ alphaL) ∧
    ∀ p, H p = none → Q (.ref p) (upd H p (.lst ((letters l).map fun c => V.str (tx [c]))))) := by
  intro pins s σ H vs us Q I r h
  obtain ⟨a, l, n, rfl, ha, hl, q⟩ := h
  have R : SetSR X.w s.heap a (memAt l l.length) n := by
    obtain ⟨R, _, _⟩ := (show ObjOk X.prog X.w H s.heap a (SetSO X.w a (memAt l l.length) n) from I.hok a _ ha)
    exact R
  rw [Vals.ref1 r]
  have hmem : ∀ k : Str, memAt l l.length k = true ↔ ∃ c ∈ l, k = tx [c] := fun k => by unfold memAt; rw [List.take_length, decide_eq_true_iff]
  have h64 : n < 64 := by
    obtain ⟨o, es, ep, t, ho, hex, hd, hn, T⟩ := id R
    have h26 : (es.toList.map txOf).length ≤ (alphaL.map fun c => tx [c]).length := by
      refine nodup_len _ _ T.nd fun k hk => ?_
      obtain ⟨c, hc2, e⟩ := (hmem k).1 ((T.mem k).2 hk)
      exact List.mem_map.mpr ⟨c, hl c hc2, e.symm⟩
    rw [List.length_map, Array.length_toList, hn, List.length_map] at h26
    have e : alphaL.length = 26 := by decide
    omega
  refine sorted_setS R (I.ok.hd hc) h64 fun s' p out c ys k g o hp hg hi hs hnd hm hlen => ?_
  have ey : ys = (letters l).map fun c => tx [c] := sorted_letters hl hs hnd fun k => (hm k).trans (hmem k)
  subst ey
  have hlen : ((letters l).map fun c => V.str (tx [c])).length ≤ sizeLine := by
    rw [List.length_map]
    refine Nat.le_trans (List.length_filter_le _ _) ?_
    rw [sizeLine_eq]
    decide
  have hv : Vals ((letters l).map fun c => V.str (tx [c])) out.toList := by
    have q := vals_of_strs hi
    rwa [List.map_map] at q
  have J : Inv X pins σ (upd H p (.lst ((letters l).map fun c => V.str (tx [c])))) { s with heap := s'.heap, gens := s'.gens, drawn := s'.drawn, toks := s'.toks } :=
    I.call (ch := []) (Un.laid k hp (I.hok.fresh hp)) (I.hok.laid k hp ⟨hlen, out.toList, c, hv, hg⟩) (by rw [g]; exact I.bare) (fun _ z => nomatch z)
  have e : s' = { s with heap := s'.heap, gens := s'.gens, drawn := s'.drawn, toks := s'.toks } := by
    cases s'
    cases s
    cases o
    rfl
  rw [e]
  exact ⟨.ref p, _, J, rfl, q p (I.hok.fresh hp)⟩
end
end Mw


set_option Elab.async false
set_option linter.all false
set_option maxRecDepth 100000
set_option maxHeartbeats 4000000
namespace Mw
open PySem PySem.Spec PyProof.Rows L2
theorem walk_zipT {K : PySem.W.Frag} {a b : Addr} {xs ys : List V} {n : Nat} (hn : n = min xs.length ys.length) : Walk (RZ.ItzT K a b) n (fun H => SqT K H a xs ∧ SqT K H b ys) (YPair (fun i => xs[i]?) (fun i => ys[i]?)) := by
  subst hn
  refine ⟨fun i _ hi q => ?_, fun _ q => ⟨xs, ys, q.1, q.2, by omega⟩, fun i H v H' _ q y => ?_⟩
  · have h1 : i < xs.length := by omega
    have h2 : i < ys.length := by omega
    exact ⟨xs, ys, xs[i], ys[i], q.1, q.2, by simp [h1], by simp [h2]⟩
  · obtain ⟨T, x, y, h1, h2, h3, h4, h5⟩ := y
    exact ⟨T, x, y, h1, h2, h3, h4 xs q.1, h5 ys q.2⟩
/-! ### data to be compared -/
theorem lay_ints : ∀ ns : List Int, PyData.canLayAll0 (ns.map PyData.int) = true
  | [] => by simp [PyData.canLayAll0]
  | n :: ns => by
    rw [List.map_cons, PyData.canLayAll0, lay_ints ns]
    simp [PyData.canLay0]
theorem dep_ints : ∀ ns : List Int, PyData.depthAll (ns.map PyData.int) = 0
  | [] => by simp [PyData.depthAll]
  | n :: ns => by
    rw [List.map_cons, PyData.depthAll, dep_ints ns]
    simp [PyData.depth]
abbrev dInts (ns : List Int) : PyData := .tuple (ns.map PyData.int)
theorem shaped_ints (ns : List Int) : SeqAt.shaped (dInts ns) = true := by
  unfold SeqAt.shaped
  rw [PyData.canLay0, lay_ints, PyData.depth, dep_ints]
  rfl
theorem lay_rows : ∀ r : List (List Int), PyData.canLayAll0 (r.map dInts) = true
  | [] => by simp [PyData.canLayAll0]
  | n :: ns => by
    rw [List.map_cons, PyData.canLayAll0, lay_rows ns, PyData.canLay0, lay_ints]
    rfl
theorem dep_rows : ∀ r : List (List Int), PyData.depthAll (r.map dInts) ≤ 1
  | [] => by simp [PyData.depthAll]
  | n :: ns => by
    have := dep_rows ns
    rw [List.map_cons, PyData.depthAll, PyData.depth, dep_ints]
    omega
abbrev dRows (r : List (List Int)) : PyData := .tuple (r.map dInts)
theorem shaped_rows (r : List (List Int)) : SeqAt.shaped (dRows r) = true := by
  unfold SeqAt.shaped
  have h := dep_rows r
  rw [PyData.canLay0, lay_rows, PyData.depth, decide_eq_true (by omega)]
  rfl
theorem eqv_nil (ds : List PyData) : PyData.eqv (.tuple ds) (.tuple []) = ds.isEmpty := by
  rw [PyData.eqv]
  cases ds with
  | nil => rw [PyData.eqvAll]; rfl
  | cons d ds => rw [PyData.eqvAll]; rfl
theorem shaped_nil : SeqAt.shaped (.tuple []) = true := shaped_ints []
theorem dp_ints {K : PySem.W.Frag} {H : Hp} : ∀ ns : List Int, DpAll K H (ns.map V.int) (ns.map PyData.int)
  | [] => .nil
  | n :: ns => .cons (.int n) (dp_ints ns)
theorem dp_int {K : PySem.W.Frag} {H : Hp} {a : Addr} {ns : List Int} (h : H a = some (.tup (ns.map V.int))) : Dp K H (.ref a) (dInts ns) := .tup (.inl (.inl h)) (dp_ints ns)
end Mw


set_option Elab.async false
set_option linter.all false
set_option maxRecDepth 100000
set_option maxHeartbeats 4000000
namespace Mw
open PySem PySem.Spec PyProof.Rows L2
/-! ### keys of any depth over the abstract heap -/
mutual
/-- v is the key k (whole numbers, texts, None, tracked tuples) -/
inductive Nk (H : Hp) : NestedKey → V → Prop
  | non : Nk H .none .non
  | int (i : Int) : Nk H (.num i) (.int i)
  | str (x : Str) : Nk H (.text x) (.str x)
  | tup {a : Addr} {xs : List V} {ks : List NestedKey} : H a = some (.tup xs) → NkAll H ks xs → Nk H (.tup ks) (.ref a)
inductive NkAll (H : Hp) : List NestedKey → List V → Prop
  | nil : NkAll H [] []
  | cons {k : NestedKey} {v : V} {ks : List NestedKey} {vs : List V} : Nk H k v → NkAll H ks vs → NkAll H (k :: ks) (v :: vs)
end
mutual
theorem Nk.at {H H' : Hp} (hk : ∀ a xs, H a = some (.tup xs) → H' a = some (.tup xs)) : ∀ (k : NestedKey) (v : V), Nk H k v → Nk H' k v
  | .none, _, h => by cases h; exact .non
  | .num _, _, h => by cases h; exact .int _
  | .text _, _, h => by cases h; exact .str _
  | .tup ks, _, h => by cases h with | tup e r => exact .tup (hk _ _ e) (NkAll.at hk ks _ r)
theorem NkAll.at {H H' : Hp} (hk : ∀ a xs, H a = some (.tup xs) → H' a = some (.tup xs)) : ∀ (ks : List NestedKey) (vs : List V), NkAll H ks vs → NkAll H' ks vs
  | [], _, h => by cases h; exact .nil
  | k :: ks, _, h => by cases h with | cons a b => exact .cons (Nk.at hk k _ a) (NkAll.at hk ks _ b)
end
theorem NkAll.length {H : Hp} : ∀ {ks : List NestedKey} {vs : List V}, NkAll H ks vs → vs.length = ks.length
  | [], _, h => by cases h; rfl
  | _ :: ks, _, h => by cases h with | cons _ b => rw [List.length_cons, List.length_cons, NkAll.length b]
mutual
theorem Nk.inj {H : Hp} : ∀ (x y : NestedKey) (v : V), Nk H x v → Nk H y v → x = y
  | .none, _, _, hx, hy => by cases hx; cases hy; rfl
  | .num i, _, _, hx, hy => by cases hx; cases hy; rfl
  | .text x, _, _, hx, hy => by cases hx; cases hy; rfl
  | .tup ks, _, _, hx, hy => by
    cases hx with
    | tup h1 h2 =>
      cases hy with
      | tup k1 k2 =>
        rw [h1] at k1
        cases k1
        rw [NkAll.inj ks _ _ h2 k2]
theorem NkAll.inj {H : Hp} : ∀ (xs ys : List NestedKey) (vs : List V), NkAll H xs vs → NkAll H ys vs → xs = ys
  | [], _, _, hx, hy => by cases hx; cases hy; rfl
  | x :: xs, _, _, hx, hy => by
    cases hx with
    | cons h1 h2 =>
      cases hy with
      | cons k1 k2 => rw [Nk.inj x _ _ h1 k1, NkAll.inj xs _ _ h2 k2]
end
mutual
/-- the model's own saying of it -/
theorem Nk.real {X : Cx} {pins : List (Addr × Obj)} {σ : L2.St} {H : Hp} {s : Shared} (I : Inv X pins σ H s) : ∀ (k : NestedKey) (v : V) (u : Value), Nk H k v → RelV v u → NestedIs s.heap k u
  | .none, _, u, h, r => by
    cases h
    have e : u = Value.none := r
    rw [e]; exact .none
  | .num i, _, u, h, r => by
    cases h
    obtain ⟨t, e⟩ : ∃ t, u = Value.int i t := r
    rw [e]; exact .int i t
  | .text x, _, u, h, r => by
    cases h
    obtain ⟨t, e⟩ : ∃ t, u = Value.str x t := r
    rw [e]; exact .text x t
  | .tup ks, _, u, h, r => by
    cases h with
    | @tup a xs _ e q =>
      have eu : u = Value.ref a := r
      rw [eu]
      obtain ⟨_, its, rv, o, ho, hc, n, hdat⟩ := I.hok a _ e
      exact .tup ho hc hdat (by simpa using NkAll.real I ks xs its q rv)
theorem NkAll.real {X : Cx} {pins : List (Addr × Obj)} {σ : L2.St} {H : Hp} {s : Shared} (I : Inv X pins σ H s) : ∀ (ks : List NestedKey) (vs : List V) (us : List Value), NkAll H ks vs → Vals vs us → NestedAll s.heap ks us
  | [], _, us, h, r => by
    cases h
    cases r
    exact .nil
  | k :: ks, _, us, h, r => by
    cases h with
    | cons a b =>
      cases r with
      | cons r1 r2 => exact .cons (Nk.real I k _ _ a r1) (NkAll.real I ks _ _ b r2)
end
/-! ### dicts with such keys -/
abbrev NRel : List (NestedKey × Addr × V) → List (NestedKey × Addr × Value) → Prop := Paired fun p q => p.1 = q.1 ∧ p.2.1 = q.2.1 ∧ RelV p.2.2 q.2.2
def NSt (P : Program) (w : World) (a : Addr) (xs : List (NestedKey × Addr × V)) (h : Heap) : Prop := (a == sysModules) = false ∧ xs.length ≤ sizeLine ∧ ∃ ys, NRel xs ys ∧
  ∃ o es ep, h.get? a = some o ∧ o.ExactDict ∧ o.data = .dict es ep ∧ es.toList = ys.map (entryOfKey (nestedKind P w)) ∧ (ys.map (·.1)).Nodup
def NOb (P : Program) (w : World) (a : Addr) (xs : List (NestedKey × Addr × V)) : HO := .ext (NSt P w a xs)
theorem nst_ok {P : Program} {w : World} {H : Hp} {h : Heap} {a : Addr} {xs : List (NestedKey × Addr × V)} (x : NSt P w a xs h) : ObjOk P w H h a (NOb P w a xs) := by
  obtain ⟨h1, h2, ys, r, o, es, ep, ho, t⟩ := id x
  refine ⟨x, ⟨o, ho⟩, fun g1 g2 y k => ?_⟩
  obtain ⟨h1, h2, ys, r, o, es, ep, ho, t⟩ := y
  exact ⟨h1, h2, ys, r, o, es, ep, k _ ho, t⟩
/-- at a stands a dict of these keys and values -/
def NDict (P : Program) (w : World) (H : Hp) (a : Addr) (kvs : List (NestedKey × V)) : Prop :=
  ∃ xs : List (NestedKey × Addr × V), H a = some (NOb P w a xs) ∧ xs.map (fun x => (x.1, x.2.2)) = kvs ∧ ∀ x ∈ xs, Nk H x.1 (.ref x.2.1) ∧ x.1.depth ≤ 8
def valN (kvs : List (NestedKey × V)) (k : NestedKey) : Option V := (kvs.find? fun kv => decide (kv.1 = k)).map (·.2)
theorem valN_none {kvs : List (NestedKey × V)} {k : NestedKey} : valN kvs k = none ↔ k ∉ kvs.map (·.1) := by
  unfold valN
  rw [Option.map_eq_none_iff, List.find?_eq_none]
  constructor
  · intro h m
    obtain ⟨p, hp, e⟩ := List.mem_map.mp m
    exact h p hp (decide_eq_true e)
  · intro h p hp e
    exact h (List.mem_map.mpr ⟨p, hp, of_decide_eq_true e⟩)
theorem valN_cons (p : NestedKey × V) (kvs : List (NestedKey × V)) (k : NestedKey) : valN (p :: kvs) k = if p.1 = k then some p.2 else valN kvs k := by
  unfold valN
  rw [List.find?_cons]
  by_cases e : p.1 = k
  · simp [e]
  · simp [e]
theorem NRel.find : ∀ {xs : List (NestedKey × Addr × V)} {ys : List (NestedKey × Addr × Value)} (r : NRel xs ys) (k : NestedKey), RelO (valN (xs.map fun x => (x.1, x.2.2)) k) ((atKey ys k).map (·.2))
  | _, _, .nil, k => trivial
  | _, _, @Paired.cons _ _ _ p q ps qs h t, k => by
    have ih := NRel.find (xs := ps) (ys := qs) t k
    obtain ⟨h1, h2, h3⟩ := h
    rw [List.map_cons, valN_cons]
    unfold atKey at ih ⊢
    rw [List.find?_cons]
    by_cases e : p.1 = k
    · have e2 : q.1 = k := h1 ▸ e
      simp only [e, e2, if_true, decide_true, Option.map_some]
      exact h3
    · have e2 : ¬ q.1 = k := fun z => e (h1.trans z)
      simp only [e, e2, if_false, decide_false]
      exact ih
theorem NRel.keys : ∀ {xs : List (NestedKey × Addr × V)} {ys : List (NestedKey × Addr × Value)}, NRel xs ys → ∀ y ∈ ys, ∃ x ∈ xs, x.1 = y.1 ∧ x.2.1 = y.2.1
  | _, _, .nil, y, m => by cases m
  | _, _, @Paired.cons _ _ _ p q ps qs h t, y, m => by
    rcases List.mem_cons.mp m with rfl | m
    · exact ⟨p, List.mem_cons_self .., h.1, h.2.1⟩
    · obtain ⟨x, hx, e⟩ := NRel.keys (xs := ps) (ys := qs) t y m
      exact ⟨x, List.mem_cons_of_mem _ hx, e⟩
theorem NRel.snoc {p : NestedKey × Addr × V} {q : NestedKey × Addr × Value} (h : p.1 = q.1 ∧ p.2.1 = q.2.1 ∧ RelV p.2.2 q.2.2) : ∀ {xs : List (NestedKey × Addr × V)} {ys : List (NestedKey × Addr × Value)}, NRel xs ys → NRel (xs ++ [p]) (ys ++ [q])
  | _, _, .nil => .cons h .nil
  | _, _, .cons a t => .cons a (NRel.snoc h t)
section
variable {X : Cx} {pins : List (Addr × Obj)} {σ : L2.St} {H : Hp} {s : Shared} {a : Addr} {kvs : List (NestedKey × V)} {k : NestedKey} {v : V} {u r : Value} {A : Around} {E : Value → Shared → Prop}
theorem Nk.is (I : Inv X pins σ H s) {c : Addr} (h : Nk H k (.ref c)) (d : k.depth ≤ 8) : (nestedKind X.prog X.w).is s.heap k c := ⟨Nk.real I k _ _ h (show RelV (.ref c) (.ref c) from rfl), d⟩
theorem nd_at (I : Inv X pins σ H s) {xs : List (NestedKey × Addr × V)} (e : H a = some (NOb X.prog X.w a xs)) (hk : ∀ x ∈ xs, Nk H x.1 (.ref x.2.1) ∧ x.1.depth ≤ 8) :
    (a == sysModules) = false ∧ xs.length ≤ sizeLine ∧ ∃ ys, NRel xs ys ∧ s.heap.DictOfH (nestedKind X.prog X.w) a ys := by
  obtain ⟨⟨h1, h2, ys, r, o, es, ep, ho, t1, t2, t3, t4⟩, _⟩ := I.hok a _ e
  refine ⟨h1, h2, ys, r, o, es, ep, ho, t1, t2, t3, fun y hy => ?_, t4⟩
  obtain ⟨x, hx, e1, e2⟩ := r.keys y hy
  have q := hk x hx
  rw [e1, e2] at q
  exact Nk.is I q.1 q.2
theorem NDict.typeIs (I : Inv X pins σ H s) (d : NDict X.prog X.w H a kvs) : s.TypeIs (.ref a) "dict" := by
  obtain ⟨xs, e, _, hk⟩ := d
  obtain ⟨_, _, ys, _, dd⟩ := nd_at I e hk
  exact dd.typeIs
theorem NDict.noDict (I : Inv X pins σ H s) (d : NDict X.prog X.w H a kvs) : ∀ b, Value.ref a = .ref b → ∃ ob, s.heap.get? b = some ob ∧ ob.dict = none := fun b q => by
  cases q
  obtain ⟨xs, e, _, hk⟩ := d
  obtain ⟨_, _, ys, _, ob, _, _, h1, h2, _⟩ := nd_at I e hk
  exact ⟨ob, h1, h2.2.1⟩
theorem room8 (hu : X.A.units + 64 < cLine) : (nestedKind X.prog X.w).room X.A.in1 := by
  show X.A.in1.units + 8 < cLine
  have : X.A.in1.units ≤ X.A.units + 1 := Nat.le_refl _
  omega
theorem nd_len (I : Inv X pins σ H s) (d : NDict X.prog X.w H a kvs) {Q : Value → Shared → Prop} (h : ∀ t s', Inv X pins σ H s' → Q (.int kvs.length t) s') : wpAny (model X.prog X.w) A (call (.builtin "len") [.ref a]) Q E s := by
  obtain ⟨xs, e, ek, hk⟩ := d
  obtain ⟨h1, h2, ys, r, dd⟩ := nd_at I e hk
  have hl : kvs.length = ys.length := by rw [← ek, List.length_map, Paired.length r]
  refine call_len_dictH h1 dd (by rw [← Paired.length r]; rw [sizeLine_eq] at h2; omega) ?_
  rw [← hl]
  exact h _ _ (I.tok _)
theorem nd_notIn (hu : X.A.units + 64 < cLine) (I : Inv X pins σ H s) (d : NDict X.prog X.w H a kvs) {y : V} (hy : Nk H k y) (ht : ∃ ks, k = .tup ks) (hd : k.depth ≤ 8) (ry : RelV y u) {Q : Value → Shared → Prop} (h : ∀ s', Inv X pins σ H s' → Q (.bool (!(valN kvs k).isSome)) s') :
    wpAny (model X.prog X.w) X.A (compareOp .NotIn u (.ref a)) Q E s := by
  obtain ⟨xs, e, ek, hk⟩ := d
  obtain ⟨h1, h2, ys, r, dd⟩ := nd_at I e hk
  obtain ⟨ks, rfl⟩ := ht
  obtain ⟨c, rfl⟩ : ∃ c, y = .ref c := by cases hy; exact ⟨_, rfl⟩
  have eu : u = Value.ref c := ry
  subst eu
  refine wpAny_notIn_heap (room8 hu) (Nk.is I hy hd) h1 dd ?_
  have q := (r.find (.tup ks)).isSome_eq
  rw [Option.isSome_map, ek] at q
  rw [← q]
  exact h _ (I.tok _)
theorem nd_get (hu : X.A.units + 64 < cLine) (I : Inv X pins σ H s) (d : NDict X.prog X.w H a kvs) {y : V} (hy : Nk H k y) (ht : ∃ ks, k = .tup ks) (hd : k.depth ≤ 8) (ry : RelV y u) (hv : valN kvs k = some v) {Q : Value → Shared → Prop} (h : ∀ w' s', Inv X pins σ H s' → RelV v w' → Q w' s') :
    wpAny (model X.prog X.w) X.A (getItem (.ref a) u) Q E s := by
  obtain ⟨xs, e, ek, hk⟩ := d
  obtain ⟨h1, h2, ys, r, dd⟩ := nd_at I e hk
  obtain ⟨ks, rfl⟩ := ht
  obtain ⟨c, rfl⟩ : ∃ c, y = .ref c := by cases hy; exact ⟨_, rfl⟩
  have eu : u = Value.ref c := ry
  subst eu
  have q := r.find (.tup ks)
  rw [ek, hv] at q
  obtain ⟨w', hw, rw'⟩ := RelO.some_of q
  obtain ⟨p, hp, rfl⟩ := Option.map_eq_some_iff.mp hw
  exact wpAny_getItem_heap (room8 hu) (Nk.is I hy hd) dd hp (h _ _ (I.tok _) rw')
/-- what a store of a new key leaves -/
theorem nd_new {c : Addr} {xs : List (NestedKey × Addr × V)} {ys : List (NestedKey × Addr × Value)} {h' : Heap} (h1 : (a == sysModules) = false) (hl : xs.length < sizeLine) (rel : NRel xs ys) (rv : RelV v r)
    (dd : h'.DictOfH (nestedKind X.prog X.w) a (ys ++ [(k, c, r)])) : NSt X.prog X.w a (xs ++ [(k, c, v)]) h' := by
  obtain ⟨o, es, ep, ho, t1, t2, t3, _, t4⟩ := dd
  refine ⟨h1, ?_, ys ++ [(k, c, r)], rel.snoc ⟨rfl, rfl, rv⟩, o, es, ep, ho, t1, t2, t3, t4⟩
  rw [List.length_append]
  exact hl
theorem nd_keys {c : Addr} {xs : List (NestedKey × Addr × V)} {o : HO} (e : H a = some (NOb X.prog X.w a xs)) (hk : ∀ x ∈ xs, Nk H x.1 (.ref x.2.1) ∧ x.1.depth ≤ 8) (hy : Nk H k (.ref c)) (hd : k.depth ≤ 8) :
    ∀ x ∈ xs ++ [(k, c, v)], Nk (upd H a o) x.1 (.ref x.2.1) ∧ x.1.depth ≤ 8 := fun x hx => by
  have keep : ∀ b zs, H b = some (.tup zs) → upd H a o b = some (.tup zs) := fun b zs eb => by
    rw [upd_ne (ne_of eb e (fun z => nomatch z))]
    exact eb
  rcases List.mem_append.mp hx with m | m
  · exact ⟨Nk.at keep _ _ (hk x m).1, (hk x m).2⟩
  · rcases List.mem_singleton.mp m with rfl
    exact ⟨Nk.at keep _ _ hy, hd⟩
theorem atKey_none_of {xs : List (NestedKey × Addr × V)} {ys : List (NestedKey × Addr × Value)} (r : NRel xs ys) (h : valN (xs.map fun x => (x.1, x.2.2)) k = none) : atKey ys k = none := by
  have q := r.find k
  rw [h] at q
  exact Option.map_eq_none_iff.mp (RelO.none_of q)
/-- d[k] = v of a new key -/
theorem nd_set (hu : X.A.units + 64 < cLine) (I : Inv X pins σ H s) (d : NDict X.prog X.w H a kvs) {y : V} (hy : Nk H k y) (ht : ∃ ks, k = .tup ks) (hd : k.depth ≤ 8) (ry : RelV y u) (hv : valN kvs k = none) (hl : kvs.length < sizeLine) (rv : RelV v r) {Q : Unit → Shared → Prop}
    (h : ∀ φ s', NDict X.prog X.w (upd H a (.ext φ)) a (kvs ++ [(k, v)]) → Inv X pins σ (upd H a (.ext φ)) s' → Q () s') : wpAny (model X.prog X.w) X.A (setItem (.ref a) u r) Q E s := by
  obtain ⟨xs, e, ek, hk⟩ := d
  obtain ⟨h1, h2, ys, rel, dd⟩ := nd_at I e hk
  obtain ⟨ks, rfl⟩ := ht
  obtain ⟨c, rfl⟩ : ∃ c, y = .ref c := by cases hy; exact ⟨_, rfl⟩
  have eu : u = Value.ref c := ry
  subst eu
  have hlx : xs.length < sizeLine := by rw [← ek, List.length_map] at hl; exact hl
  refine wpAny_setItem_heap (hsz := by rw [← Paired.length rel]; exact Nat.le_of_lt hlx) (room8 hu) (Nk.is I hy hd) dd fun h' dd' hs => ?_
  rw [storedH_new (atKey_none_of rel (by rw [ek]; exact hv))] at dd'
  have he : ∃ q, h'.get? a = some q := let ⟨q, _, _, hq, _⟩ := dd'; ⟨q, hq⟩
  have new := nd_new h1 hlx rel rv dd'
  refine h (NSt X.prog X.w a (xs ++ [(.tup ks, c, v)])) _ ⟨xs ++ [(.tup ks, c, v)], upd_same, by rw [List.map_append, ek]; rfl, nd_keys e hk hy hd⟩ (d_write I (by rw [e]; exact True.intro) hs he (nst_ok new))
/-- d.setdefault(k, v) -/
theorem nd_setd (hu : X.A.units + 64 < cLine) (I : Inv X pins σ H s) (d : NDict X.prog X.w H a kvs) {y : V} (hy : Nk H k y) (ht : ∃ ks, k = .tup ks) (hd : k.depth ≤ 8) (ry : RelV y u) (hl : kvs.length < sizeLine) (rv : RelV v r) {Q : Value → Shared → Prop}
    (h1 : ∀ v', valN kvs k = some v' → ∀ w' s', Inv X pins σ H s' → RelV v' w' → Q w' s')
    (h2 : valN kvs k = none → ∀ φ s', NDict X.prog X.w (upd H a (.ext φ)) a (kvs ++ [(k, v)]) → Inv X pins σ (upd H a (.ext φ)) s' → Q r s') : wpAny (model X.prog X.w) X.A (call (.builtin "dict.setdefault") [.ref a, u, r]) Q E s := by
  obtain ⟨xs, e, ek, hk⟩ := d
  obtain ⟨g1, g2, ys, rel, dd⟩ := nd_at I e hk
  obtain ⟨ks, rfl⟩ := ht
  obtain ⟨c, rfl⟩ : ∃ c, y = .ref c := by cases hy; exact ⟨_, rfl⟩
  have eu : u = Value.ref c := ry
  subst eu
  have hlx : xs.length < sizeLine := by rw [← ek, List.length_map] at hl; exact hl
  refine call_setdefault_heap (hsz := by rw [← Paired.length rel]; exact Nat.le_of_lt hlx) (room8 hu) (Nk.is I hy hd) g1 dd (fun p hp => ?_) fun hn h' dd' hs => ?_
  · have q := rel.find (.tup ks)
    rw [ek, hp] at q
    cases q0 : valN kvs (.tup ks) with
    | none => rw [q0] at q; exact (show False from q).elim
    | some v0 =>
      rw [q0] at q
      exact h1 v0 q0 _ _ (I.tok _) q
  · rw [storedH_new hn] at dd'
    have he : ∃ q, h'.get? a = some q := let ⟨q, _, _, hq, _⟩ := dd'; ⟨q, hq⟩
    have new := nd_new g1 hlx rel rv dd'
    have hv : valN kvs (.tup ks) = none := by
      have q := rel.find (.tup ks)
      rw [ek, hn] at q
      cases q0 : valN kvs (.tup ks) with
      | none => rfl
      | some v0 => rw [q0] at q; exact (show False from q).elim
    exact h2 hv (NSt X.prog X.w a (xs ++ [(.tup ks, c, v)])) _ ⟨xs ++ [(.tup ks, c, v)], upd_same, by rw [List.map_append, ek]; rfl, nd_keys e hk hy hd⟩ (d_write I (by rw [e]; exact True.intro) hs he (nst_ok new))
end
end Mw


set_option Elab.async false
set_option linter.all false
set_option maxRecDepth 100000
set_option maxHeartbeats 4000000
namespace Mw
open PySem PySem.Spec PyProof.Rows L2
/-! ### the rules by readings -/
/-- {}, to be a dict with keys of any depth -/
def tDNewN (P : Program) (w : World) : TE := fun _ H Q => ∀ p, H p = none → ∀ φ, NDict P w (upd H p (.ext φ)) p [] → Q (.ref p) (upd H p (.ext φ))
theorem nst_empty {P : Program} {w : World} (h : Heap) (hb : sysModules < h.objs.size) : NSt P w h.objs.size [] (h.push { cls := .type "dict", data := .dict #[] }) :=
  ⟨beq_eq_false_iff_ne.mpr (Ne.symm (Nat.ne_of_lt hb)), Nat.zero_le _, [], .nil, _, #[], 0, Heap.get?_push_size _ rfl, ⟨rfl, rfl, rfl⟩, rfl, rfl, List.nodup_nil⟩
theorem nd_empty {P : Program} {w : World} {H : Hp} {p : Addr} : NDict P w (upd H p (NOb P w p [])) p [] := ⟨[], upd_same, rfl, fun x hx => by cases hx⟩
section
variable {X : Cx} {pos : Pos}
theorem pe_dnewN : PE X (.Dict [] [] pos) (tDNewN X.prog X.w) := ⟨fun pins s σ H Q I h =>
  wpAny_Dict_empty ⟨.ref s.heap.objs.size, _, I.laid (a := s.heap.objs.size) (o := NOb X.prog X.w s.heap.objs.size []) (t' := s.toks) (fun _ _ q => Heap.get?_push_of_some _ q) (Nat.le_refl _) (nst_ok (nst_empty s.heap I.big)), rfl,
    h _ (I.hok.fresh (Nat.le_refl _)) _ nd_empty⟩⟩
/-- {k: v}, k a key of any depth that is a tuple -/
def tDisp1N (P : Program) (w : World) (tk tv : TE) : TE := fun σ H Q => ∀ p, H p = none → ∀ φ, NDict P w (upd H p (.ext φ)) p [] → tk σ (upd H p (.ext φ)) fun y H1 => tv σ H1 fun v H2 =>
  H2 p = some (.ext φ) ∧ ∃ k, Nk H2 k y ∧ (∃ ks, k = .tup ks) ∧ k.depth ≤ 8 ∧ ∀ ψ, NDict P w (upd H2 p (.ext ψ)) p [(k, v)] → Q (.ref p) (upd H2 p (.ext ψ))
theorem pe_disp1N {k v : Expr} {tk tv : TE} (hu : X.A.units + 64 < cLine) (hk : PE X k tk) (hv : PE X v tv) : PE X (.Dict [some k] [v] pos) (tDisp1N X.prog X.w tk tv) := by
  refine ⟨fun pins s σ H Q I q => ?_⟩
  have hn := I.hok.fresh (Nat.le_refl s.heap.objs.size)
  have I1 := I.laid (a := s.heap.objs.size) (o := NOb X.prog X.w s.heap.objs.size []) (h' := s.heap.push { cls := .type "dict", data := .dict #[] }) (t' := s.toks) (fun _ _ q => Heap.get?_push_of_some _ q) (Nat.le_refl _) (nst_ok (nst_empty s.heap I.big))
  have hz : (evalEachOpt [some k] X.env).zip ((evalEach [v] X.env).map fun v => do let x ← v; standAt pos; pure x) = (pairTrees [some k] [v] X.env pos).map fun p => (some p.1, p.2) := zip_pairTrees _ _ _ _ rfl rfl
  have hlen : (pairTrees [some k] [v] X.env pos).length = 1 := pairTrees_length _ _ _ _ rfl rfl
  rw [arm_eval_Dict, hz, dictDisplay_pairs _ (by intro z; rw [z] at hlen; cases hlen) (by rw [hlen]; decide)]
  refine wpAny_bind (wpAny_standAt (wpAny_bind (wpAny_subDictH (knd := nestedKind X.prog X.w) (show X.A.units + 8 < cLine by omega) (by rw [hlen]; decide) ?_)))
  refine pairTrees_cons_walk (thn (hk.run pins _ σ _ _ I1 (q _ hn _ nd_empty)) fun u s1 ⟨y, H1, I2, ry, q1⟩ => thn (hv.run pins s1 σ H1 _ I2 q1) fun r s2 ⟨z, H2, I3, rz, e, ky, hN, ht, hd, q2⟩ => pairTrees_nil_walk ?_)
  obtain ⟨ks, rfl⟩ := ht
  obtain ⟨c, rfl⟩ : ∃ c, y = .ref c := by cases hN; exact ⟨_, rfl⟩
  have eu : u = Value.ref c := ry
  subst eu
  have e' : H2 s.heap.objs.size = some (NOb X.prog X.w s.heap.objs.size []) := e
  obtain ⟨g1, g2, ys, rel, dd⟩ := nd_at I3 e' (fun x hx => by cases hx)
  cases rel
  refine ⟨[(.tup ks, c, r)], ⟨rfl, rfl, Nk.is I3 hN hd, trivial⟩, dd, fun h' tk' dd' hs => wpAny_pure ?_⟩
  have dd2 : h'.DictOfH (nestedKind X.prog X.w) s.heap.objs.size ([] ++ [(NestedKey.tup ks, c, r)]) := dd'
  have he : ∃ q, h'.get? s.heap.objs.size = some q := let ⟨q, _, _, hq, _⟩ := dd2; ⟨q, hq⟩
  have new := nd_new g1 (by rw [sizeLine_eq]; decide) (.nil : NRel [] []) rz dd2
  exact ⟨.ref s.heap.objs.size, _, d_write I3 (by rw [e]; exact True.intro) hs he (nst_ok new), rfl, q2 _ ⟨_, upd_same, rfl, nd_keys e' (fun x hx => by cases hx) hN hd⟩⟩
/-- y not in d -/
def tNDNotIn (P : Program) (w : World) (ty td : TE) : TE := fun σ H Q => ty σ H fun y H1 => td σ H1 fun x H2 => ∃ a kvs k, x = .ref a ∧ NDict P w H2 a kvs ∧ Nk H2 k y ∧ (∃ ks, k = .tup ks) ∧ k.depth ≤ 8 ∧ Q (.bl (!(valN kvs k).isSome)) H2
theorem pc_ndnotin {i o : Expr} {ty td : TE} (hu : X.A.units + 64 < cLine) (hi : PE X i ty) (ho : PE X o td) : PC X .NotIn i o (tNDNotIn X.prog X.w ty td) := by
  refine ⟨fun pins s σ H Q I h => ?_⟩
  refine thn (hi.run pins s σ H _ I h) fun iv s1 ⟨y, H1, I1, ry, q1⟩ => thn (ho.run pins s1 σ H1 _ I1 q1) fun u s2 ⟨x, H2, I2, rx, a, kvs, k, ex, d, hk, ht, hd, q2⟩ => ?_
  subst ex
  obtain rfl : u = Value.ref a := rx
  exact nd_notIn hu I2 d hk ht hd ry fun s3 I3 => ⟨.bl (!(valN kvs k).isSome), H2, I3, rfl, q2⟩
/-- d[y] -/
def tNDGet (P : Program) (w : World) (td ty : TE) : TE := fun σ H Q => td σ H fun x H1 => ty σ H1 fun y H2 => ∃ a kvs k v, x = .ref a ∧ NDict P w H2 a kvs ∧ Nk H2 k y ∧ (∃ ks, k = .tup ks) ∧ k.depth ≤ 8 ∧ valN kvs k = some v ∧ Q v H2
theorem pe_ndget {o i : Expr} {ty td : TE} (hu : X.A.units + 64 < cLine) (ho : PE X o td) (hi : PE X i ty) (hs : NoSl i) : PE X (.Subscript o i pos) (tNDGet X.prog X.w td ty) := by
  refine ⟨fun pins s σ H Q I h => ?_⟩
  refine subD_of PySem.F.slot_dict_getitem.lookup hs (thn (ho.run pins s σ H _ I h) fun u s1 ⟨x, H1, I1, rx, q1⟩ => thn (hi.run pins s1 σ H1 _ I1 q1) fun iv s2 ⟨y, H2, I2, ry, a, kvs, k, v, ex, d, hk, ht, hd, hv, q2⟩ => ?_)
  subst ex
  obtain rfl : u = Value.ref a := rx
  exact ⟨d.typeIs I2, nd_get hu I2 d hk ht hd ry hv fun w' s3 I3 rw' => ⟨v, H2, I3, rw', q2⟩⟩
/-- d[y] = v, a new key -/
def sNDPut (P : Program) (w : World) (td ty tv : TE) : TS := fun D σ H => tv σ H fun v H1 => td σ H1 fun x H2 => ty σ H2 fun y H3 => ∃ a kvs k, x = .ref a ∧ NDict P w H3 a kvs ∧ Nk H3 k y ∧ (∃ ks, k = .tup ks) ∧ k.depth ≤ 8 ∧ valN kvs k = none ∧ kvs.length < sizeLine ∧
  ∀ φ, NDict P w (upd H3 a (.ext φ)) a (kvs ++ [(k, v)]) → D.nx σ (upd H3 a (.ext φ))
theorem ps_ndput {o i value : Expr} {pos' : Pos} {ty td tv : TE} (hu : X.A.units + 64 < cLine) (ho : PE X o td) (hi : PE X i ty) (hv : PE X value tv) (hs : swapsWith value (some (.Subscript o i pos')) pos.line X.env = pure false) :
    PS X (.Assign [.Subscript o i pos'] value pos) (sNDPut X.prog X.w td ty tv) := by
  refine ⟨fun pins s σ H D I h => ?_⟩
  refine wpAny_Assign_Subscript (thn (hv.run pins s σ H _ I h) fun r s1 ⟨v, H1, I1, rv, q1⟩ => thn (ho.run pins s1 σ H1 _ I1 q1) fun u s2 ⟨x, H2, I2, rx, q2⟩ => thn (hi.run pins s2 σ H2 _ I2 q2) fun iv s3 ⟨y, H3, I3, ry, a, kvs, k, ex, d, hk, ht, hd, hv, hl, q3⟩ => ?_) hs
  subst ex
  obtain rfl : u = Value.ref a := rx
  exact nd_set hu I3 d hk ht hd ry hv hl rv fun φ s4 d4 I4 => ⟨σ, _, I4, q3 φ d4⟩
/-- d.setdefault(y, z) -/
def tNDSetd (P : Program) (w : World) (td ty tx : TE) : TE := fun σ H Q => td σ H fun x H1 => ∃ a kvs0, x = .ref a ∧ NDict P w H1 a kvs0 ∧ ty σ H1 fun y H2 => tx σ H2 fun z H3 => ∃ kvs k, NDict P w H3 a kvs ∧ Nk H3 k y ∧ (∃ ks, k = .tup ks) ∧ k.depth ≤ 8 ∧ kvs.length < sizeLine ∧
  (∀ v, valN kvs k = some v → Q v H3) ∧ (valN kvs k = none → ∀ φ, NDict P w (upd H3 a (.ext φ)) a (kvs ++ [(k, z)]) → Q z (upd H3 a (.ext φ)))
theorem pe_ndsetd {o e f : Expr} {td ty tx : TE} {apos cpos : Pos} (hu : X.A.units + 64 < cLine) (ho : PE X o td) (he : PE X e ty) (hf : PE X f tx) (m : M2 X o "setdefault" apos e f cpos) : PE X (.Call (.Attribute o "setdefault" apos) [e, f] [] cpos) (tNDSetd X.prog X.w td ty tx) := by
  refine ⟨fun pins s σ H Q I h => ?_⟩
  refine wpAny_Call_method m.base m.few m.line PySem.F.plainAttrs_dict PySem.F.slot_dict_setdefault PySem.F.type_dict_setdefault (thn (ho.run pins s σ H _ I h) fun u s1 ⟨x, H1, I1, rx, a, kvs0, ex, d, q1⟩ => ?_)
  subst ex
  obtain rfl : u = Value.ref a := rx
  refine ⟨d.typeIs I1, d.noDict I1, ?_⟩
  rw [m.trees]
  refine Calls.callWith_builtin rfl (Calls.evalArgs_plain (Calls.spliced_cons (thn (he.run pins s1 σ H1 _ I1 q1) fun iv s2 ⟨y, H2, I2, ry, q2⟩ =>
    Calls.spliced_cons (thn (hf.run pins s2 σ H2 _ I2 q2) fun fv s3 ⟨z, H3, I3, rz, kvs, k, d3, hk, ht, hd, hl, q3, q4⟩ => Calls.spliced_nil ?_))))
  exact nd_setd hu I3 d3 hk ht hd ry hl rz (fun v hv w' s4 I4 rw' => ⟨v, _, I4, rw', q3 v hv⟩) fun hn φ s4 d4 I4 => ⟨z, _, I4, rz, q4 hn φ d4⟩
def rNLen (P : Program) (w : World) : List V → Hp → VK → Prop := fun xs H Q => ∃ (p : Addr) (kvs : List (NestedKey × V)), xs = [.ref p] ∧ NDict P w H p kvs ∧ Q (.int ((kvs.length : Nat) : Int)) H
theorem call_lenN : CallR X (.builtin "len") (rNLen X.prog X.w) := by
  intro pins s σ H xs us Q I r h
  obtain ⟨p, kvs, rfl, hp, q⟩ := h
  obtain ⟨u, rfl, rx⟩ := vals1 r
  obtain rfl : u = .ref p := rx
  exact nd_len I hp fun t s' I' => ⟨.int ((kvs.length : Nat) : Int), H, I', ⟨_, rfl⟩, q⟩
end
end Mw


set_option Elab.async false
set_option linter.all false
set_option maxRecDepth 100000
set_option maxHeartbeats 4000000
namespace Mw
open PySem PySem.Spec PyProof.Rows L2
theorem storedAllH_new : ∀ (ps acc : List (NestedKey × Addr × Value)), ((acc ++ ps).map (·.1)).Nodup → storedAllH acc ps = acc ++ ps
  | [], acc, _ => by rw [List.append_nil]; rfl
  | p :: ps, acc, hn => by
    have e : acc ++ p :: ps = (acc ++ [p]) ++ ps := by rw [List.append_assoc]; rfl
    have h0 : atKey acc p.1 = none := by
      refine atKey_none_of_get fun j q z => ?_
      rw [List.map_append, List.nodup_append] at hn
      have m1 : p.1 ∈ acc.map (·.1) := List.mem_map.mpr ⟨(p.1, q), List.mem_of_getElem? z, rfl⟩
      exact hn.2.2 p.1 m1 p.1 (by rw [List.map_cons]; exact List.mem_cons_self ..) rfl
    show storedAllH (storedH acc p.1 p.2.1 p.2.2) ps = _
    rw [storedH_new h0, storedAllH_new ps (acc ++ [p]) (by rw [← e]; exact hn), e]
section
variable {X : Cx}
theorem pairs_ofN {pins : List (Addr × Obj)} {σ : L2.St} {H : Hp} {s : Shared} (I : Inv X pins σ H s) : ∀ {ps : List Addr} {es : List (NestedKey × Addr × V)}, Paired (fun p (e : NestedKey × Addr × V) => SqT X.K H p [.ref e.2.1, e.2.2]) ps es →
    ∃ ys : List (NestedKey × Addr × Value), NRel es ys ∧ ys.length = ps.length ∧ ∀ (j : Nat) (q : NestedKey × Addr × Value), ys[j]? = some q → ∃ b, ps[j]? = some b ∧ IsTup s.heap b #[.ref q.2.1, q.2.2]
  | _, _, .nil => ⟨[], .nil, rfl, fun j q e => by simp at e⟩
  | _, _, .cons (a := p) (b := kv) h t => by
    obtain ⟨ys, r, hl, hp⟩ := pairs_ofN I t
    obtain ⟨its, rv, ht, _⟩ := I.tuple h
    obtain ⟨u, y, ei, ru, ry⟩ := vals2 rv
    subst ei
    have eu : u = Value.ref kv.2.1 := ru
    subst eu
    refine ⟨(kv.1, kv.2.1, y) :: ys, .cons ⟨rfl, rfl, ry⟩ r, by rw [List.length_cons, List.length_cons, hl], fun j q e => ?_⟩
    cases j with
    | zero =>
      have e' : (kv.1, kv.2.1, y) = q := Option.some.inj e
      subst e'
      exact ⟨p, rfl, ht⟩
    | succ j =>
      obtain ⟨b, e1, e2⟩ := hp j q (by simpa using e)
      exact ⟨b, by simpa using e1, e2⟩
theorem NRel.keysEq : ∀ {xs : List (NestedKey × Addr × V)} {ys : List (NestedKey × Addr × Value)}, NRel xs ys → ys.map (·.1) = xs.map (·.1)
  | _, _, .nil => rfl
  | _, _, .cons h t => by rw [List.map_cons, List.map_cons, ← h.1, NRel.keysEq t]
/-- dict(xs) of a list of pairs whose keys are tuples, all different -/
def rDictN (P : Program) (w : World) (K : PySem.W.Frag) : List V → Hp → VK → Prop := fun xs H Q => ∃ (a : Addr) (ps : List Addr) (es : List (NestedKey × Addr × V)), xs = [.ref a] ∧ SqL K H a (ps.map V.ref) ∧ Paired (fun p (e : NestedKey × Addr × V) => SqT K H p [.ref e.2.1, e.2.2]) ps es ∧
  (∀ e ∈ es, Nk H e.1 (.ref e.2.1) ∧ e.1.depth ≤ 8) ∧ (es.map (·.1)).Nodup ∧ ∀ p, H p = none → ∀ φ, NDict P w (upd H p (.ext φ)) p (es.map fun e => (e.1, e.2.2)) → Q (.ref p) (upd H p (.ext φ))
theorem call_dictN (hcalm : X.calm = true) (hu : X.A.units + 64 < cLine) : CallR X (.type "dict") (rDictN X.prog X.w X.K) := by
  intro pins s σ H xs us Q I r q
  obtain ⟨a, ps, es, ex, hq, hp, hk, hnd, q⟩ := q
  subst ex
  obtain ⟨u, eu, rx⟩ := vals1 r
  subst eu
  cases rx
  obtain ⟨its, rv, pl, hz⟩ := I.list hq
  have ei := refs_at rv
  subst ei
  rw [List.length_map] at hz
  obtain ⟨ys, rel, hl, hpr⟩ := pairs_ofN I hp
  obtain ⟨o, n, ho, hc, hd, hdat⟩ := pl
  have hnd2 : (ys.map (·.1)).Nodup := by rw [rel.keysEq]; exact hnd
  have hm : (s.heap.objs.size == sysModules) = false := beq_eq_false_iff_ne.mpr (Nat.ne_of_gt I.big)
  have his : ∀ y ∈ ys, (nestedKind X.prog X.w).is s.heap y.1 y.2.1 := fun y hy => by
    obtain ⟨x, hx, e1, e2⟩ := rel.keys y hy
    have q := hk x hx
    rw [e1, e2] at q
    exact Nk.is I q.1 q.2
  let Ts : Nat → Addr := fun j => ps.getD j 0
  let prs : List (Value × Value) := ys.map fun y => (.ref y.2.1, y.2.2)
  have hPI : PairItems s.heap ((ps.map Value.ref).toArray) Ts prs := by
    refine ⟨by simp [prs, hl], fun j k v hj => ?_⟩
    have hj2 : (ys[j]?).map (fun y => (Value.ref y.2.1, y.2.2)) = some (k, v) := by rw [← List.getElem?_map]; exact hj
    obtain ⟨y, hy, e⟩ := Option.map_eq_some_iff.mp hj2
    injection e with e1 e2
    obtain ⟨b, hb, ht⟩ := hpr j y hy
    have eT : Ts j = b := by show ps.getD j 0 = b; rw [List.getD_eq_getElem?_getD, hb]; rfl
    refine ⟨?_, .inl ?_⟩
    · rw [eT, List.getElem?_toArray, List.getElem?_map, hb]; rfl
    · rw [eT, ← e1, ← e2]; exact ht
  refine call_dict_pairsH (knd := nestedKind X.prog X.w) (ps := ys) (PairArg.list a ((ps.map Value.ref).toArray) Ts prs) (I.ok.hd hcalm) ?_ ⟨⟨o, n, ho, hc, hd, hdat⟩, hPI⟩ ⟨by simp [prs], fun i key v hr => ?_⟩ (fun h' hk' y hy => ?_) ?_ fun h' tk hd' hk' => ?_
  · show X.A.in1.in1.units + 8 < cLine
    have : X.A.in1.in1.units ≤ X.A.units + 2 := Nat.le_refl _
    omega
  · have hr2 : (ys[i]?).map (fun y => (Value.ref y.2.1, y.2.2)) = some (key, v) := by rw [← List.getElem?_map]; exact hr
    obtain ⟨y, hy, e⟩ := Option.map_eq_some_iff.mp hr2
    injection e with e1 e2
    exact ⟨y.1, y.2.1, by rw [hy, ← e2], e1.symm⟩
  · exact nestedKind_stays.stays (fun b ob vs n hb hd2 => hk' b ob (Nat.ne_of_lt (Heap.lt_size hb)) (by intro z; cases z) hb) (his y hy)
  · show prs.length ≤ sizeLine
    simp only [prs, List.length_map, hl]
    exact hz
  · rw [storedAllH_new ys [] hnd2] at hd'
    obtain ⟨o', es', ep', ho', t1, t2, t3, _, t4⟩ := hd'
    have hlen : es.length ≤ sizeLine := by rw [Paired.length rel, hl]; exact hz
    have new : NSt X.prog X.w s.heap.objs.size es h' := ⟨hm, hlen, ys, rel, o', es', ep', ho', t1, t2, t3, t4⟩
    have hfr := I.hok.fresh (Nat.le_refl s.heap.objs.size)
    refine ⟨.ref s.heap.objs.size, _, I.laid (t' := tk) (fun b u e => hk' b u (by intro z; cases z) e) (Nat.le_refl _) (nst_ok new), rfl, q _ hfr _ ⟨es, upd_same, rfl, fun x hx => ⟨Nk.at (fun b zs eb => ?_) _ _ (hk x hx).1, (hk x hx).2⟩⟩⟩
    rw [upd_ne (ne_of_none eb hfr)]
    exact eb
end
end Mw


set_option Elab.async false
set_option linter.all false
set_option maxRecDepth 100000
set_option maxHeartbeats 4000000
namespace Mw
open PySem PySem.Spec PyProof.Rows L2
/-! ### dicts with keys None, whole numbers, texts -/
def leafV : Leaf → V
  | .none => .non
  | .num i => .int i
  | .text x => .str x
theorem leaf_is {P : Program} {w : World} {k : Leaf} {u : Value} (r : RelV (leafV k) u) : (leafKind P w).is k u = true := by
  cases k with
  | none =>
    have e : u = Value.none := r
    rw [e]; rfl
  | num i =>
    obtain ⟨t, e⟩ : ∃ t, u = Value.int i t := r
    rw [e]; exact leaf_int i t
  | text x =>
    obtain ⟨t, e⟩ : ∃ t, u = Value.str x t := r
    rw [e]; exact leaf_str x t
def LSt (P : Program) (w : World) (a : Addr) (kvs : List (Leaf × V)) (h : Heap) : Prop := (a == sysModules) = false ∧ kvs.length ≤ sizeLine ∧ ∃ vs, KV kvs vs ∧ h.DictOf (leafKind P w) a vs
def LDi (P : Program) (w : World) (a : Addr) (kvs : List (Leaf × V)) : HO := .ext (LSt P w a kvs)
theorem lst_ok {P : Program} {w : World} {H : Hp} {h : Heap} {a : Addr} {kvs : List (Leaf × V)} (x : LSt P w a kvs h) : ObjOk P w H h a (LDi P w a kvs) := by
  obtain ⟨h1, h2, vs, r, o, es, ep, ho, t⟩ := id x
  refine ⟨x, ⟨o, ho⟩, fun g1 g2 y k => ?_⟩
  obtain ⟨h1, h2, vs, r, o, es, ep, ho, t⟩ := y
  exact ⟨h1, h2, vs, r, o, es, ep, k _ ho, t⟩
section
variable {X : Cx} {pins : List (Addr × Obj)} {σ : L2.St} {H : Hp} {s : Shared} {a : Addr} {kvs : List (Leaf × V)} {k : Leaf} {v : V} {u r : Value} {A : Around} {E : Value → Shared → Prop} {pos : Pos}
theorem ld_at (I : Inv X pins σ H s) (e : H a = some (LDi X.prog X.w a kvs)) : LSt X.prog X.w a kvs s.heap := (I.hok a _ e).1
/-- {}, to be a dict with such keys -/
def tDNewL (P : Program) (w : World) : TE := fun _ H Q => ∀ p, H p = none → Q (.ref p) (upd H p (LDi P w p []))
theorem pe_dnewL : PE X (.Dict [] [] pos) (tDNewL X.prog X.w) := ⟨fun pins s σ H Q I h =>
  wpAny_Dict_empty ⟨.ref s.heap.objs.size, _, I.laid (a := s.heap.objs.size) (o := LDi X.prog X.w s.heap.objs.size []) (t' := s.toks) (fun _ _ q => Heap.get?_push_of_some _ q) (Nat.le_refl _)
    (lst_ok ⟨beq_eq_false_iff_ne.mpr (Ne.symm (Nat.ne_of_lt I.big)), Nat.zero_le _, [], .nil, Heap.DictOf.new s.heap⟩), rfl, h _ (I.hok.fresh (Nat.le_refl _))⟩⟩
theorem ld_setd (I : Inv X pins σ H s) (e : H a = some (LDi X.prog X.w a kvs)) (ry : RelV (leafV k) u) (rd : RelV v r) (hl : kvs.length < sizeLine) {Q : Value → Shared → Prop}
    (h1 : ∀ v', valV kvs k = some v' → ∀ (w' : Value) (s' : Shared), Inv X pins σ H s' → RelV v' w' → Q w' s') (h2 : valV kvs k = none → ∀ (w' : Value) (s' : Shared), Inv X pins σ (upd H a (LDi X.prog X.w a (putK kvs k v))) s' → RelV v w' → Q w' s') :
    wpAny (model X.prog X.w) A (call (.builtin "dict.setdefault") [.ref a, u, r]) Q E s := by
  obtain ⟨hd, z, vs, rel, dd⟩ := ld_at I e
  have hz : vs.length ≤ sizeLine := by rw [← rel.length]; exact z
  refine call_meetsIn PySem.F.slot_dict_setdefault dd.typeIs PySem.F.entry_dict_setdefault (PySem.F.args_dict_setdefault_3 _ _ _) (kt_meets_setdefault (leafKind X.prog X.w) a (leaf_is ry) hd r) ⟨vs, dd, hz, fun v hv => ?_, fun hn h' dd' hs => ?_⟩
  · have q := rel.val k
    rw [hv] at q
    cases q0 : valV kvs k with
    | none => rw [q0] at q; exact (show False from q).elim
    | some v0 =>
      rw [q0] at q
      exact h1 v0 q0 _ _ (I.tok _) q
  · have q := rel.val k
    rw [hn] at q
    cases q0 : valV kvs k with
    | some v0 => rw [q0] at q; exact (show False from q).elim
    | none =>
      have hl2 : (putK kvs k v).length ≤ sizeLine := by
        have := length_putK kvs k v
        omega
      have he : ∃ q, h'.get? a = some q := let ⟨q, _, _, hq, _⟩ := dd'; ⟨q, hq⟩
      exact h2 q0 _ _ (d_write (t' := s.toks + 1) I (by rw [e]; exact True.intro) hs he (lst_ok ⟨hd, hl2, _, rel.put k rd, dd'⟩)) rd
def tLSetd (P : Program) (w : World) (td ty tx : TE) : TE := fun σ H Q => td σ H fun x H1 => ∃ a kvs0, x = .ref a ∧ H1 a = some (LDi P w a kvs0) ∧ ty σ H1 fun y H2 => tx σ H2 fun z H3 => ∃ (kvs : List (Leaf × V)) (k : Leaf), H3 a = some (LDi P w a kvs) ∧ y = leafV k ∧ kvs.length < sizeLine ∧
  (∀ v, valV kvs k = some v → Q v H3) ∧ (valV kvs k = none → Q z (upd H3 a (LDi P w a (putK kvs k z))))
theorem pe_lsetd {o e f : Expr} {td ty tx : TE} {apos cpos : Pos} (ho : PE X o td) (he : PE X e ty) (hf : PE X f tx) (m : M2 X o "setdefault" apos e f cpos) : PE X (.Call (.Attribute o "setdefault" apos) [e, f] [] cpos) (tLSetd X.prog X.w td ty tx) := by
  refine ⟨fun pins s σ H Q I h => ?_⟩
  refine wpAny_Call_method m.base m.few m.line PySem.F.plainAttrs_dict PySem.F.slot_dict_setdefault PySem.F.type_dict_setdefault (thn (ho.run pins s σ H _ I h) fun u s1 ⟨x, H1, I1, rx, a, kvs0, ex, d, q1⟩ => ?_)
  subst ex
  obtain rfl : u = Value.ref a := rx
  obtain ⟨hd, z, vs, rel, dd⟩ := ld_at I1 d
  refine ⟨dd.typeIs, fun b q => ?_, ?_⟩
  · cases q
    obtain ⟨ob, _, _, h1, h2, _⟩ := dd
    exact ⟨ob, h1, h2.2.1⟩
  rw [m.trees]
  refine Calls.callWith_builtin rfl (Calls.evalArgs_plain (Calls.spliced_cons (thn (he.run pins s1 σ H1 _ I1 q1) fun iv s2 ⟨y, H2, I2, ry, q2⟩ =>
    Calls.spliced_cons (thn (hf.run pins s2 σ H2 _ I2 q2) fun fv s3 ⟨z, H3, I3, rz, kvs, k, ea, ey, hl, q3, q4⟩ => Calls.spliced_nil ?_))))
  subst ey
  exact ld_setd I3 ea ry rz hl (fun v hv w' s4 I4 rw' => ⟨v, _, I4, rw', q3 v hv⟩) fun hn w' s4 I4 rw' => ⟨z, _, I4, rw', q4 hn⟩
def rLLen (P : Program) (w : World) : List V → Hp → VK → Prop := fun xs H Q => ∃ (p : Addr) (kvs : List (Leaf × V)), xs = [.ref p] ∧ H p = some (LDi P w p kvs) ∧ Q (.int ((kvs.length : Nat) : Int)) H
theorem call_lenL : CallR X (.builtin "len") (rLLen X.prog X.w) := by
  intro pins s σ H xs us Q I r h
  obtain ⟨p, kvs, rfl, hp, q⟩ := h
  obtain ⟨u, rfl, rx⟩ := vals1 r
  obtain rfl : u = .ref p := rx
  obtain ⟨hd, z, vs, rel, dd⟩ := ld_at I hp
  refine call_len_dict hd dd (by rw [← rel.length]; rw [sizeLine_eq] at z; omega) ?_
  rw [← rel.length]
  exact ⟨.int ((kvs.length : Nat) : Int), H, I.tok _, ⟨_, rfl⟩, q⟩
end
end Mw


set_option Elab.async false
set_option linter.all false
set_option maxRecDepth 100000
set_option maxHeartbeats 4000000
namespace Mw
/-! ### the mirror: prices, rows, states -/
/-- prices -/
structure Pr where
  x : Int
  y : Int
  wr : Int
  sw : Option Int
structure PrOk (p : Pr) : Prop where
  x : 1 ≤ p.x ∧ p.x ≤ 9
  y : 1 ≤ p.y ∧ p.y ≤ 9
  wr : 1 ≤ p.wr ∧ p.wr ≤ 9
  sw : ∀ s, p.sw = some s → 1 ≤ s ∧ s ≤ 9
abbrev Ent := List Nat × Int
structure EntOk (e : Ent) : Prop where
  abc : ∀ c ∈ e.1, c ∈ alphaL
  lo : 1 ≤ e.1.length
  hi : e.1.length ≤ 5
  own : 0 ≤ e.2 ∧ e.2 ≤ 999
structure EntsOk (es : List Ent) : Prop where
  all : ∀ e ∈ es, EntOk e
  few : es.length ≤ 4
  nd : (es.map (·.1)).Nodup
structure Lis where
  p : Pr
  es : List Ent
  lim : Int
structure LisOk (L : Lis) : Prop where
  p : PrOk L.p
  es : EntsOk L.es
  lim : 0 ≤ L.lim ∧ L.lim ≤ 9999
/-- the least of some numbers -/
def minL : List Int → Int
  | [] => 0
  | [a] => a
  | a :: b :: l => if a ≤ minL (b :: l) then a else minL (b :: l)
theorem minL_mem : ∀ {l : List Int}, l ≠ [] → minL l ∈ l
  | [], h => absurd rfl h
  | [a], _ => List.mem_singleton.mpr rfl
  | a :: b :: l, _ => by
    unfold minL
    split
    · exact List.mem_cons_self ..
    · exact List.mem_cons_of_mem _ (minL_mem (by intro z; cases z))
theorem minL_le : ∀ {l : List Int} {y : Int}, y ∈ l → minL l ≤ y
  | [a], y, h => by
    rw [List.mem_singleton.mp h]
    exact Int.le_refl _
  | a :: b :: l, y, h => by
    unfold minL
    rcases List.mem_cons.mp h with e | m
    · subst e
      split
      · exact Int.le_refl _
      · omega
    · have := minL_le m
      split
      · omega
      · exact this
theorem minL_eq {l : List Int} {m : Int} (h : m ∈ l) (hm : ∀ y ∈ l, m ≤ y) : m = minL l := by
  have h1 := hm _ (minL_mem (l := l) (by intro z; rw [z] at h; cases h))
  have h2 := minL_le h
  omega
/-- all letters of the words -/
def abc (es : List Ent) : List Nat := letters (es.flatMap (·.1))
/-- the way of two swapped letters -/
def swaps (p : Pr) (w : List Nat) (eld : Option (List Int × Nat)) (c j : Nat) : List Int :=
  match eld, p.sw with
  | some (e, d), some s => if 1 ≤ j ∧ d ≠ c ∧ w.getD (j - 1) 0 = c ∧ w.getD j 0 = d then [e.getD (j - 1) 0 + s] else []
  | _, _ => []
/-- the least price of a beginning of j letters -/
def cell (p : Pr) (w : List Nat) (here : List Int) (eld : Option (List Int × Nat)) (c : Nat) : Nat → Int
  | 0 => here.getD 0 0
  | j + 1 => minL ([here.getD (j + 1) 0 + p.x, cell p w here eld c j + p.y, here.getD j 0 + (if w.getD j 0 = c then 0 else p.wr)] ++ swaps p w eld c j)
def nextW (p : Pr) (w : List Nat) (here : List Int) (eld : Option (List Int × Nat)) (c : Nat) : List Int := (List.range (w.length + 1)).map (cell p w here eld c)
structure Sta where
  row : List (List Int)
  mem : Option (List (List Int) × Nat)
  deriving DecidableEq
def startM (p : Pr) (es : List Ent) : Sta := ⟨es.map fun e => (List.range (e.1.length + 1)).map fun (j : Nat) => p.y * (j : Int), none⟩
def stepM (p : Pr) (es : List Ent) (s : Sta) (c : Nat) : Sta :=
  ⟨(List.range es.length).map fun i => nextW p (es.getD i ([], 0)).1 (s.row.getD i []) (s.mem.map fun m => (m.1.getD i [], m.2)) c, if p.sw.isSome = true ∧ c ∈ abc es then some (s.row, c) else none⟩
def runM (p : Pr) (es : List Ent) (s : Sta) (t : List Nat) : Sta := t.foldl (stepM p es) s
def totals (es : List Ent) (row : List (List Int)) : List Int := (List.range es.length).map fun i => (row.getD i []).getLastD 0 + (es.getD i ([], 0)).2
def heardM (L : Lis) (row : List (List Int)) : Option (List Nat) :=
  if L.es = [] then none else
  if (totals L.es row).getD (leastAt (totals L.es row)) 0 > L.lim then none else some (L.es.getD (leastAt (totals L.es row)) ([], 0)).1
structure RowOk (es : List Ent) (r : List (List Int)) : Prop where
  len : r.length = es.length
  each : ∀ (i : Nat) e, es[i]? = some e → ∃ ns, r[i]? = some ns ∧ ns.length = e.1.length + 1
structure StaOk (p : Pr) (es : List Ent) (s : Sta) : Prop where
  row : RowOk es s.row
  mem : ∀ h c, s.mem = some (h, c) → RowOk es h ∧ c ∈ abc es ∧ p.sw.isSome = true
/-- the letters that are tried: those of the words and the least other one -/
def triedL (l : List Nat) : List Nat := letters (l ++ (alphaL.filter fun c => decide (c ∉ l)).take 1)
def tried (es : List Ent) : List Nat := triedL (abc es)
theorem nextW_len {p : Pr} {w : List Nat} {here : List Int} {eld : Option (List Int × Nat)} {c : Nat} : (nextW p w here eld c).length = w.length + 1 := by
  unfold nextW
  rw [List.length_map, List.length_range]
theorem startM_ok {p : Pr} {es : List Ent} : StaOk p es (startM p es) where
  row := ⟨by unfold startM; rw [List.length_map], fun i e h => ⟨_, by unfold startM; rw [List.getElem?_map, h]; rfl, by rw [List.length_map, List.length_range]⟩⟩
  mem := fun h c e => by cases e
theorem stepM_ok {p : Pr} {es : List Ent} {s : Sta} {c : Nat} (o : StaOk p es s) : StaOk p es (stepM p es s c) where
  row := ⟨by unfold stepM; rw [List.length_map, List.length_range], fun i e h => by
    have hi : i < es.length := (List.getElem?_eq_some_iff.mp h).1
    refine ⟨_, by unfold stepM; rw [List.getElem?_map, List.getElem?_range hi]; rfl, ?_⟩
    rw [nextW_len, List.getD_eq_getElem?_getD, h]
    rfl⟩
  mem := fun h d e => by
    have e2 : (if p.sw.isSome = true ∧ c ∈ abc es then some (s.row, c) else none) = some (h, d) := e
    split at e2
    · rename_i q
      cases e2
      exact ⟨o.row, q.2, q.1⟩
    · cases e2
theorem runM_ok {p : Pr} {es : List Ent} : ∀ {t : List Nat} {s : Sta}, StaOk p es s → StaOk p es (runM p es s t)
  | [], s, o => o
  | c :: t, s, o => runM_ok (t := t) (stepM_ok o)
theorem runM_app {p : Pr} {es : List Ent} {s : Sta} {t u : List Nat} : runM p es s (t ++ u) = runM p es (runM p es s t) u := List.foldl_append ..
end Mw


set_option Elab.async false
set_option linter.all false
set_option maxRecDepth 100000
set_option maxHeartbeats 4000000
namespace Mw
/-! ### the states that are found, in the order of the search -/
section
variable (p : Pr) (es : List Ent)
def visit1 (s : Sta) (fs : List Sta) (c : Nat) : List Sta := if stepM p es s c ∈ fs then fs else fs ++ [stepM p es s c]
def visit (fs : List Sta) (s : Sta) (cs : List Nat) : List Sta := cs.foldl (visit1 p es s) fs
def bfsN : Nat → List Sta
  | 0 => [startM p es]
  | k + 1 => match (bfsN k)[k]? with
    | some s => visit p es (bfsN k) s (tried es)
    | none => bfsN k
/-- the search ends within n -/
structure Closed (M : List Sta) : Prop where
  start : startM p es ∈ M
  step : ∀ s ∈ M, ∀ c ∈ tried es, stepM p es s c ∈ M
end
section
variable {p : Pr} {es : List Ent}
theorem visit_app {fs : List Sta} {s : Sta} {cs : List Nat} {c : Nat} : visit p es fs s (cs ++ [c]) = visit1 p es s (visit p es fs s cs) c := by
  unfold visit
  rw [List.foldl_append]
  rfl
theorem visit1_ext {s : Sta} {fs : List Sta} {c : Nat} : ∃ gs, visit1 p es s fs c = fs ++ gs := by
  unfold visit1
  split
  · exact ⟨[], (List.append_nil _).symm⟩
  · exact ⟨_, rfl⟩
theorem visit_ext {s : Sta} : ∀ {cs : List Nat} {fs : List Sta}, ∃ gs, visit p es fs s cs = fs ++ gs
  | [], fs => ⟨[], (List.append_nil _).symm⟩
  | c :: cs, fs => by
    obtain ⟨g1, h1⟩ := visit1_ext (p := p) (es := es) (s := s) (fs := fs) (c := c)
    obtain ⟨g2, h2⟩ := visit_ext (s := s) (cs := cs) (fs := visit1 p es s fs c)
    refine ⟨g1 ++ g2, ?_⟩
    show visit p es (visit1 p es s fs c) s cs = _
    rw [h2, h1, List.append_assoc]
/-- what holds of the found states -/
structure Fnd (M fs : List Sta) : Prop where
  nd : fs.Nodup
  sub : ∀ s ∈ fs, s ∈ M
  ok : ∀ s ∈ fs, StaOk p es s
theorem Fnd.visit1 {M fs : List Sta} {s : Sta} {c : Nat} (m : Closed p es M) (f : Fnd (p := p) (es := es) M fs) (hs : s ∈ fs) (hc : c ∈ tried es) : Fnd (p := p) (es := es) M (visit1 p es s fs c) := by
  unfold Mw.visit1
  split
  · exact f
  · rename_i hn
    refine ⟨?_, fun x hx => ?_, fun x hx => ?_⟩
    · rw [List.nodup_append]
      refine ⟨f.nd, List.nodup_cons.mpr ⟨List.not_mem_nil, List.nodup_nil⟩, fun a ha b hb e => ?_⟩
      rw [List.mem_singleton.mp hb] at e
      exact hn (e ▸ ha)
    · rcases List.mem_append.mp hx with h | h
      · exact f.sub x h
      · rw [List.mem_singleton.mp h]
        exact m.step s (f.sub s hs) c hc
    · rcases List.mem_append.mp hx with h | h
      · exact f.ok x h
      · rw [List.mem_singleton.mp h]
        exact stepM_ok (f.ok s hs)
theorem mem_visit1 {fs : List Sta} {s x : Sta} {c : Nat} (h : x ∈ fs) : x ∈ visit1 p es s fs c := by
  obtain ⟨g, e⟩ := visit1_ext (p := p) (es := es) (s := s) (fs := fs) (c := c)
  rw [e]
  exact List.mem_append_left _ h
theorem Fnd.visit {M : List Sta} {s : Sta} (m : Closed p es M) : ∀ {cs : List Nat} {fs : List Sta}, Fnd (p := p) (es := es) M fs → s ∈ fs → (∀ c ∈ cs, c ∈ tried es) → Fnd (p := p) (es := es) M (visit p es fs s cs)
  | [], fs, f, _, _ => f
  | c :: cs, fs, f, hs, hc => Fnd.visit m (cs := cs) (f.visit1 m hs (hc c (List.mem_cons_self ..))) (mem_visit1 hs) fun d hd => hc d (List.mem_cons_of_mem _ hd)
theorem fnd_bfs {M : List Sta} (m : Closed p es M) : ∀ k, Fnd (p := p) (es := es) M (bfsN p es k)
  | 0 => ⟨List.nodup_cons.mpr ⟨List.not_mem_nil, List.nodup_nil⟩, fun s h => by rw [List.mem_singleton.mp h]; exact m.start, fun s h => by rw [List.mem_singleton.mp h]; exact startM_ok⟩
  | k + 1 => by
    have ih := fnd_bfs m k
    unfold bfsN
    split
    · rename_i s h
      exact ih.visit m (List.mem_of_getElem? h) fun c hc => hc
    · exact ih
theorem Fnd.len {M fs : List Sta} (f : Fnd (p := p) (es := es) M fs) : fs.length ≤ M.length := nodup_len fs M f.nd f.sub
theorem bfs_stop {k : Nat} (h : (bfsN p es k).length ≤ k) : ∀ j, bfsN p es (k + j) = bfsN p es k
  | 0 => rfl
  | j + 1 => by
    have ih := bfs_stop h j
    show (match (bfsN p es (k + j))[k + j]? with
      | some s => visit p es (bfsN p es (k + j)) s (tried es)
      | none => bfsN p es (k + j)) = _
    rw [ih, List.getElem?_eq_none (by omega)]
/-- all states that are found -/
@[irreducible] def allM (p : Pr) (es : List Ent) : List Sta := bfsN p es 2001
theorem allM_of {k : Nat} (h : (bfsN p es k).length ≤ k) (hk : k ≤ 2001) : allM p es = bfsN p es k := by
  have := bfs_stop h (2001 - k)
  unfold allM
  rw [show 2001 = k + (2001 - k) by omega]
  exact this
end
end Mw


set_option Elab.async false
set_option linter.all false
set_option maxRecDepth 100000
set_option maxHeartbeats 4000000
namespace Mw
/-! ### the place of a thing in a list -/
section
variable {α : Type} [DecidableEq α]
def ixOf : List α → α → Nat
  | [], _ => 0
  | x :: l, a => if x = a then 0 else ixOf l a + 1
theorem ixOf_get : ∀ {l : List α} {a : α}, a ∈ l → l[ixOf l a]? = some a
  | x :: l, a, h => by
    unfold ixOf
    by_cases e : x = a
    · rw [if_pos e, e]; rfl
    · rw [if_neg e]
      rcases List.mem_cons.mp h with z | z
      · exact absurd z.symm e
      · exact ixOf_get z
theorem ixOf_lt {l : List α} {a : α} (h : a ∈ l) : ixOf l a < l.length := (List.getElem?_eq_some_iff.mp (ixOf_get h)).1
theorem ixOf_uniq {l : List α} {a : α} {i : Nat} (nd : l.Nodup) (h : l[i]? = some a) : ixOf l a = i := by
  have h1 := ixOf_get (List.mem_of_getElem? h)
  have hi : ixOf l a < l.length := ixOf_lt (List.mem_of_getElem? h)
  exact (List.getElem?_inj hi nd).mp (h1.trans h.symm)
end
theorem nodup_map {α β : Type} {f : α → β} (inj : ∀ a b, f a = f b → a = b) : ∀ {l : List α}, l.Nodup → (l.map f).Nodup
  | [], _ => List.nodup_nil
  | x :: l, h => by
    obtain ⟨h1, h2⟩ := List.nodup_cons.mp h
    rw [List.map_cons]
    refine List.nodup_cons.mpr ⟨fun z => ?_, nodup_map inj h2⟩
    obtain ⟨y, hy, e⟩ := List.mem_map.mp z
    exact h1 (inj _ _ e ▸ hy)
/-! ### letters that stand in no word -/
theorem getD_mem {w : List Nat} {j : Nat} (h : j < w.length) : w.getD j 0 ∈ w := by
  rw [List.getD_eq_getElem?_getD, List.getElem?_eq_getElem h]
  exact List.getElem_mem h
theorem abc_of {es : List Ent} (ok : EntsOk es) {e : Ent} (he : e ∈ es) {c : Nat} (hc : c ∈ e.1) : c ∈ abc es :=
  mem_letters.mpr ⟨(ok.all e he).abc c hc, List.mem_flatMap.mpr ⟨e, he, hc⟩⟩
theorem swaps_other {p : Pr} {w : List Nat} {eld : Option (List Int × Nat)} {c j : Nat} (hc : c ∉ w) (hj : j < w.length) : swaps p w eld c j = [] := by
  unfold swaps
  split
  · refine if_neg fun z => hc ?_
    rw [← z.2.2.1]
    exact getD_mem (by omega)
  · rfl
theorem cell_other {p : Pr} {w : List Nat} {here : List Int} {eld : Option (List Int × Nat)} {c d : Nat} (hc : c ∉ w) (hd : d ∉ w) : ∀ j, j ≤ w.length → cell p w here eld c j = cell p w here eld d j
  | 0, _ => rfl
  | j + 1, h => by
    have hm : w.getD j 0 ∈ w := getD_mem (by omega)
    have e1 : ¬ w.getD j 0 = c := fun z => hc (by rw [← z]; exact hm)
    have e2 : ¬ w.getD j 0 = d := fun z => hd (by rw [← z]; exact hm)
    unfold cell
    rw [cell_other hc hd j (by omega), swaps_other hc (by omega), swaps_other hd (by omega), if_neg e1, if_neg e2]
theorem step_other {p : Pr} {es : List Ent} {s : Sta} {c d : Nat} (ok : EntsOk es) (hc : c ∉ abc es) (hd : d ∉ abc es) : stepM p es s c = stepM p es s d := by
  unfold stepM
  rw [if_neg fun z => hc z.2, if_neg fun z => hd z.2]
  congr 1
  refine List.map_congr_left fun i hi => ?_
  have hi2 := List.mem_range.mp hi
  have hm : es.getD i ([], 0) ∈ es := by
    rw [List.getD_eq_getElem?_getD, List.getElem?_eq_getElem hi2]
    exact List.getElem_mem hi2
  unfold nextW
  refine List.map_congr_left fun j hj => ?_
  have hj2 := List.mem_range.mp hj
  exact cell_other (fun z => hc (abc_of ok hm z)) (fun z => hd (abc_of ok hm z)) j (by omega)
theorem abc_tried {es : List Ent} {c : Nat} (h : c ∈ abc es) : c ∈ tried es := mem_letters.mpr ⟨(mem_letters.mp h).1, List.mem_append_left _ h⟩
/-- the letters that are tried and known to no word: one, if there is one -/
def others (es : List Ent) : List Nat := (tried es).filter fun c => decide (c ∉ abc es)
theorem others_head {es : List Ent} {c : Nat} (hc : c ∈ alphaL) (hn : c ∉ tried es) : ∃ o r, others es = o :: r ∧ o ∈ tried es ∧ o ∉ abc es := by
  have h1 : c ∈ alphaL.filter fun c => decide (c ∉ abc es) := List.mem_filter.mpr ⟨hc, decide_eq_true fun z => hn (abc_tried z)⟩
  obtain ⟨x, r, hx⟩ : ∃ x r, (alphaL.filter fun c => decide (c ∉ abc es)) = x :: r := by
    cases e : alphaL.filter fun c => decide (c ∉ abc es) with
    | nil => rw [e] at h1; cases h1
    | cons x r => exact ⟨x, r, rfl⟩
  have hx2 := List.mem_filter.mp (hx ▸ List.mem_cons_self .. : x ∈ alphaL.filter fun c => decide (c ∉ abc es))
  have hx3 : x ∉ abc es := of_decide_eq_true hx2.2
  have hxt : x ∈ tried es := mem_letters.mpr ⟨hx2.1, List.mem_append_right _ (by rw [hx]; exact List.mem_cons_self ..)⟩
  have hxo : x ∈ others es := List.mem_filter.mpr ⟨hxt, decide_eq_true hx3⟩
  cases e : others es with
  | nil => rw [e] at hxo; cases hxo
  | cons o r =>
    have ho := List.mem_filter.mp (e ▸ List.mem_cons_self .. : o ∈ others es)
    exact ⟨o, r, rfl, ho.1, of_decide_eq_true ho.2⟩
theorem pw_nodup : ∀ {l : List Nat}, l.Pairwise (· < ·) → l.Nodup
  | [], _ => List.nodup_nil
  | x :: l, h => by
    rw [List.pairwise_cons] at h
    refine List.nodup_cons.mpr ⟨fun z => ?_, pw_nodup h.2⟩
    have := h.1 x z
    omega
theorem tried_nd (es : List Ent) : (tried es).Nodup := pw_nodup (letters_lt _)
theorem tried_sub (es : List Ent) : ∀ c ∈ tried es, c ∈ alphaL := fun c h => (mem_letters.mp h).1
theorem tried_len (es : List Ent) : (tried es).length ≤ 26 := by
  have := List.length_filter_le (fun c => decide (c ∈ abc es ++ (alphaL.filter fun c => decide (c ∉ abc es)).take 1)) alphaL
  have e : alphaL.length = 26 := by decide
  unfold tried triedL letters
  omega
/-- for each state the numbers of the states behind the letters -/
def goalsM (p : Pr) (es : List Ent) (fs : List Sta) : List (List Nat) := fs.map fun s => alphaL.map fun c => ixOf fs (stepM p es s c)
/-! ### numbering by first appearance -/
section
variable {α : Type} [DecidableEq α]
def addNew (ks : List α) (x : α) : List α := if x ∈ ks then ks else ks ++ [x]
def keysOf (xs : List α) : List α := xs.foldl addNew []
theorem keysOf_snoc (xs : List α) (x : α) : keysOf (xs ++ [x]) = addNew (keysOf xs) x := by
  unfold keysOf
  rw [List.foldl_append]
  rfl
theorem addNew_ext (ks : List α) (x : α) : ∃ r, addNew ks x = ks ++ r := by
  unfold addNew
  split
  · exact ⟨[], (List.append_nil _).symm⟩
  · exact ⟨_, rfl⟩
theorem keysOf_ext : ∀ (ys xs : List α), ∃ r, keysOf (xs ++ ys) = keysOf xs ++ r
  | [], xs => ⟨[], by rw [List.append_nil, List.append_nil]⟩
  | y :: ys, xs => by
    obtain ⟨r1, h1⟩ := addNew_ext (keysOf xs) y
    obtain ⟨r2, h2⟩ := keysOf_ext ys (xs ++ [y])
    refine ⟨r1 ++ r2, ?_⟩
    rw [show xs ++ y :: ys = (xs ++ [y]) ++ ys by rw [List.append_assoc]; rfl, h2, keysOf_snoc, h1, List.append_assoc]
theorem mem_addNew {ks : List α} {x y : α} : y ∈ addNew ks x ↔ y ∈ ks ∨ y = x := by
  unfold addNew
  split
  · rename_i h
    exact ⟨.inl, fun q => q.elim id fun e => e ▸ h⟩
  · rw [List.mem_append, List.mem_singleton]
theorem nd_addNew {ks : List α} {x : α} (h : ks.Nodup) : (addNew ks x).Nodup := by
  unfold addNew
  split
  · exact h
  · rename_i hn
    rw [List.nodup_append]
    refine ⟨h, List.nodup_cons.mpr ⟨List.not_mem_nil, List.nodup_nil⟩, fun a ha b hb e => ?_⟩
    rw [List.mem_singleton.mp hb] at e
    exact hn (e ▸ ha)
theorem foldl_addNew : ∀ (xs ks : List α), ks.Nodup → (xs.foldl addNew ks).Nodup ∧ ∀ y, y ∈ xs.foldl addNew ks ↔ y ∈ ks ∨ y ∈ xs
  | [], ks, h => ⟨h, fun y => by simp⟩
  | x :: xs, ks, h => by
    obtain ⟨h1, h2⟩ := foldl_addNew xs (addNew ks x) (nd_addNew h)
    refine ⟨h1, fun y => ?_⟩
    show y ∈ xs.foldl addNew (addNew ks x) ↔ _
    rw [h2, mem_addNew, List.mem_cons, or_assoc]
theorem keysOf_nd (xs : List α) : (keysOf xs).Nodup := (foldl_addNew xs [] List.nodup_nil).1
theorem mem_keysOf {xs : List α} {y : α} : y ∈ keysOf xs ↔ y ∈ xs := by
  have := (foldl_addNew xs [] List.nodup_nil).2 y
  unfold keysOf
  rw [this]
  simp
theorem ixOf_app {ks r : List α} {x : α} (h : x ∈ ks) : ixOf (ks ++ r) x = ixOf ks x := by
  induction ks with
  | nil => cases h
  | cons k ks ih =>
    rw [List.cons_append]
    unfold ixOf
    by_cases e : k = x
    · rw [if_pos e, if_pos e]
    · rw [if_neg e, if_neg e, ih ((List.mem_cons.mp h).resolve_left fun z => e z.symm)]
theorem ixOf_new {ks : List α} {x : α} (h : x ∉ ks) : ixOf (ks ++ [x]) x = ks.length := by
  induction ks with
  | nil => simp [ixOf]
  | cons k ks ih =>
    rw [List.cons_append]
    have ne : ¬ k = x := fun z => h (by rw [← z]; exact List.mem_cons_self ..)
    unfold ixOf
    rw [if_neg ne, ih fun z => h (List.mem_cons_of_mem _ z), List.length_cons]
def num (xs : List α) : List Nat := xs.map (ixOf (keysOf xs))
/-- the number of a thing, as it is known when it appears -/
theorem num_take {xs : List α} {i : Nat} {x : α} (h : xs[i]? = some x) : ixOf (keysOf xs) x = ixOf (addNew (keysOf (xs.take i)) x) x := by
  have e : xs = xs.take (i + 1) ++ xs.drop (i + 1) := (List.take_append_drop _ _).symm
  obtain ⟨r, hr⟩ := keysOf_ext (xs.drop (i + 1)) (xs.take (i + 1))
  have e2 : keysOf (xs.take (i + 1)) = addNew (keysOf (xs.take i)) x := by rw [List.take_add_one, h]; exact keysOf_snoc _ _
  have e3 : keysOf xs = addNew (keysOf (xs.take i)) x ++ r := by
    have h4 : keysOf xs = keysOf (xs.take (i + 1) ++ xs.drop (i + 1)) := congrArg keysOf e
    rw [h4, hr, e2]
  rw [e3]
  exact ixOf_app (mem_addNew.mpr (.inr rfl))
theorem num_len (xs : List α) : (num xs).length = xs.length := by unfold num; rw [List.length_map]
theorem keys_len (xs : List α) : (keysOf xs).length ≤ xs.length := nodup_len _ _ (keysOf_nd xs) fun x h => mem_keysOf.mp h
theorem num_at {xs : List α} {i : Nat} {x : α} (h : xs[i]? = some x) : (num xs)[i]? = some (ixOf (keysOf xs) x) := by
  unfold num
  rw [List.getElem?_map, h]
  rfl
theorem num_lt {xs : List α} {i : Nat} {g : Nat} (h : (num xs)[i]? = some g) : g < (keysOf xs).length := by
  unfold num at h
  rw [List.getElem?_map] at h
  obtain ⟨x, hx, rfl⟩ := Option.map_eq_some_iff.mp h
  exact ixOf_lt (mem_keysOf.mpr (List.mem_of_getElem? hx))
end
/-! ### the refinement -/
abbrev Ans := Option (List Nat)
def sigsOf (g : List Nat) (goals : List (List Nat)) : List (Nat × List Nat) := (List.range goals.length).map fun i => (g.getD i 0, (goals.getD i []).map fun j => g.getD j 0)
def refN (ans : List Ans) (goals : List (List Nat)) : Nat → List Nat
  | 0 => num ans
  | k + 1 => num (sigsOf (refN ans goals k) goals)
def cntN (ans : List Ans) (goals : List (List Nat)) : Nat → Nat
  | 0 => (keysOf ans).length
  | k + 1 => (keysOf (sigsOf (refN ans goals k) goals)).length
def manyN (ans : List Ans) (goals : List (List Nat)) : Nat → Nat
  | 0 => 0
  | k + 1 => cntN ans goals k
/-- g are the groups: the refinement where it ends first -/
def GroupsR (ans : List Ans) (goals : List (List Nat)) (g : List Nat) : Prop := ∃ k, (∀ j, j < k → manyN ans goals j < cntN ans goals j) ∧ ¬ manyN ans goals k < cntN ans goals k ∧ g = refN ans goals k
theorem GroupsR.uniq {ans : List Ans} {goals : List (List Nat)} {g h : List Nat} (a : GroupsR ans goals g) (b : GroupsR ans goals h) : g = h := by
  obtain ⟨k, a1, a2, rfl⟩ := a
  obtain ⟨l, b1, b2, rfl⟩ := b
  have : k = l := by
    rcases Nat.lt_trichotomy k l with z | z | z
    · exact absurd (b1 k z) a2
    · exact z
    · exact absurd (a1 l z) b2
  rw [this]
theorem refN_len {ans : List Ans} {goals : List (List Nat)} (h : ans.length = goals.length) : ∀ k, (refN ans goals k).length = goals.length
  | 0 => by unfold refN; rw [num_len, h]
  | k + 1 => by unfold refN; rw [num_len]; unfold sigsOf; rw [List.length_map, List.length_range]
theorem cntN_le {ans : List Ans} {goals : List (List Nat)} (h : ans.length = goals.length) : ∀ k, cntN ans goals k ≤ goals.length
  | 0 => by
    have := keys_len ans
    show (keysOf ans).length ≤ _
    omega
  | k + 1 => by
    unfold cntN
    have := keys_len (sigsOf (refN ans goals k) goals)
    unfold sigsOf at this ⊢
    rw [List.length_map, List.length_range] at this
    exact this
/-- every letter leads where a tried one leads -/
theorem step_tried {p : Pr} {es : List Ent} {c : Nat} (ok : EntsOk es) (hc : c ∈ alphaL) : ∃ d ∈ tried es, ∀ s, stepM p es s c = stepM p es s d := by
  by_cases h : c ∈ tried es
  · exact ⟨c, h, fun _ => rfl⟩
  · obtain ⟨o, r, _, ho, hn⟩ := others_head hc h
    exact ⟨o, ho, fun s => step_other ok (fun z => h (abc_tried z)) hn⟩
end Mw


set_option Elab.async false
set_option linter.all false
set_option maxRecDepth 100000
set_option maxHeartbeats 4000000
namespace Mw
/-! ### the rows of the smallest machine -/
abbrev MRow := Ans × List Nat
def rowAt (ans : List Ans) (goals : List (List Nat)) (g : List Nat) (i : Nat) : MRow := (ans.getD i none, (goals.getD i []).map fun j => g.getD j 0)
def rowsI (ans : List Ans) (goals : List (List Nat)) (g : List Nat) : Nat → List MRow
  | 0 => []
  | i + 1 => if g.getD i 0 = (rowsI ans goals g i).length then rowsI ans goals g i ++ [rowAt ans goals g i] else rowsI ans goals g i
def rowsM (ans : List Ans) (goals : List (List Nat)) (g : List Nat) : List MRow := rowsI ans goals g g.length
theorem rowsI_len (ans : List Ans) (goals : List (List Nat)) (g : List Nat) : ∀ i, (rowsI ans goals g i).length ≤ i
  | 0 => Nat.le_refl _
  | i + 1 => by
    have ih := rowsI_len ans goals g i
    unfold rowsI
    split
    · rw [List.length_append, List.length_singleton]; omega
    · omega
/-- g is a numbering by first appearance of c things -/
def Canon (g : List Nat) (c : Nat → Nat) : Prop := c 0 = 0 ∧ ∀ i, i < g.length → g.getD i 0 ≤ c i ∧ c (i + 1) = (if g.getD i 0 = c i then c i + 1 else c i)
theorem num_canon {α : Type} [DecidableEq α] (xs : List α) : Canon (num xs) fun i => (keysOf (xs.take i)).length := by
  refine ⟨rfl, fun i hi => ?_⟩
  rw [num_len] at hi
  have hx := List.getElem?_eq_getElem hi
  have e1 : (num xs).getD i 0 = ixOf (addNew (keysOf (xs.take i)) xs[i]) xs[i] := by
    rw [List.getD_eq_getElem?_getD, num_at hx, num_take hx]
    rfl
  have e2 : keysOf (xs.take (i + 1)) = addNew (keysOf (xs.take i)) xs[i] := by rw [List.take_add_one, hx]; exact keysOf_snoc _ _
  show (num xs).getD i 0 ≤ (keysOf (xs.take i)).length ∧ (keysOf (xs.take (i + 1))).length = _
  rw [e1, e2]
  show ixOf (addNew (keysOf (xs.take i)) xs[i]) xs[i] ≤ (keysOf (xs.take i)).length ∧ (addNew (keysOf (xs.take i)) xs[i]).length = if ixOf (addNew (keysOf (xs.take i)) xs[i]) xs[i] = (keysOf (xs.take i)).length then (keysOf (xs.take i)).length + 1 else (keysOf (xs.take i)).length
  by_cases hm : xs[i] ∈ keysOf (xs.take i)
  · have ea : addNew (keysOf (xs.take i)) xs[i] = keysOf (xs.take i) := if_pos hm
    have hlt := ixOf_lt hm
    rw [ea, if_neg (by omega)]
    exact ⟨by omega, rfl⟩
  · have ea : addNew (keysOf (xs.take i)) xs[i] = keysOf (xs.take i) ++ [xs[i]] := if_neg hm
    rw [ea, ixOf_new hm, if_pos rfl, List.length_append]
    exact ⟨Nat.le_refl _, rfl⟩
theorem canon_rows {ans : List Ans} {goals : List (List Nat)} {g : List Nat} {c : Nat → Nat} (h : Canon g c) : ∀ i, i ≤ g.length → (rowsI ans goals g i).length = c i
  | 0, _ => h.1.symm
  | i + 1, hi => by
    have ih := canon_rows (ans := ans) (goals := goals) h i (by omega)
    rw [(h.2 i (by omega)).2]
    unfold rowsI
    rw [ih]
    split
    · rw [List.length_append, ih]; rfl
    · exact ih
theorem canon_mono {g : List Nat} {c : Nat → Nat} (h : Canon g c) : ∀ i j, i ≤ j → j ≤ g.length → c i ≤ c j := by
  intro i j hij
  induction j with
  | zero =>
    intro _
    have : i = 0 := by omega
    rw [this]; exact Nat.le_refl _
  | succ j ih =>
    intro hj
    have h1 := (h.2 j (by omega)).2
    have h2 : c j ≤ c (j + 1) := by rw [h1]; split <;> omega
    rcases Nat.lt_or_ge i (j + 1) with z | z
    · exact Nat.le_trans (ih (by omega) (by omega)) h2
    · have : i = j + 1 := by omega
      rw [this]; exact Nat.le_refl _
theorem canon_lt {g : List Nat} {c : Nat → Nat} (h : Canon g c) {i : Nat} (hi : i < g.length) : g.getD i 0 < c g.length := by
  obtain ⟨h1, h2⟩ := h.2 i hi
  have h3 := canon_mono h (i + 1) g.length (by omega) (Nat.le_refl _)
  rw [h2] at h3
  split at h3 <;> omega
/-- every row is that of the first member of its group -/
theorem rows_first {ans : List Ans} {goals : List (List Nat)} {g : List Nat} {c : Nat → Nat} (h : Canon g c) : ∀ i, i ≤ g.length → ∀ r, r < c i → ∃ j, j < i ∧ g.getD j 0 = r ∧ (rowsI ans goals g i)[r]? = some (rowAt ans goals g j)
  | 0, _, r, hr => by rw [h.1] at hr; omega
  | i + 1, hi, r, hr => by
    have hl := canon_rows (ans := ans) (goals := goals) h i (by omega)
    have ih := rows_first (ans := ans) (goals := goals) h i (by omega)
    rw [(h.2 i (by omega)).2] at hr
    unfold rowsI
    rw [hl]
    by_cases e : g.getD i 0 = c i
    · rw [if_pos e] at hr ⊢
      rcases Nat.lt_or_ge r (c i) with z | z
      · obtain ⟨j, hj, e1, e2⟩ := ih r z
        exact ⟨j, by omega, e1, by rw [List.getElem?_append_left (by omega)]; exact e2⟩
      · have : r = c i := by omega
        subst this
        exact ⟨i, by omega, e, by rw [List.getElem?_append_right (by omega), hl, Nat.sub_self]; rfl⟩
    · rw [if_neg e] at hr ⊢
      obtain ⟨j, hj, e1, e2⟩ := ih r hr
      exact ⟨j, by omega, e1, e2⟩
theorem refN_canon (ans : List Ans) (goals : List (List Nat)) (k : Nat) : ∃ c, Canon (refN ans goals k) c ∧ ((refN ans goals k).length ≤ (refN ans goals k).length → c (refN ans goals k).length = cntN ans goals k) := by
  cases k with
  | zero =>
    refine ⟨_, num_canon ans, fun _ => ?_⟩
    show (keysOf (ans.take (num ans).length)).length = (keysOf ans).length
    rw [num_len, List.take_length]
  | succ k =>
    refine ⟨_, num_canon (sigsOf (refN ans goals k) goals), fun _ => ?_⟩
    show (keysOf ((sigsOf (refN ans goals k) goals).take (num (sigsOf (refN ans goals k) goals)).length)).length = _
    rw [num_len, List.take_length]
    rfl
/-! ### the last groups are stable -/
theorem nodup_of_cover {α : Type} [DecidableEq α] : ∀ (l m : List α), m.Nodup → (∀ x ∈ m, x ∈ l) → l.length ≤ m.length → l.Nodup
  | [], _, _, _, _ => List.nodup_nil
  | x :: l, m, hm, hs, hl => by
    rw [List.length_cons] at hl
    have hx : x ∉ l := fun z => by
      have := nodup_len m l hm fun y hy => by
        rcases List.mem_cons.mp (hs y hy) with e | e
        · rw [e]; exact z
        · exact e
      omega
    have hxm : x ∈ m := by
      by_cases z : x ∈ m
      · exact z
      · have := nodup_len m l hm fun y hy => (List.mem_cons.mp (hs y hy)).resolve_left fun e => z (e ▸ hy)
        omega
    refine List.nodup_cons.mpr ⟨hx, nodup_of_cover l (m.erase x) (hm.erase x) (fun y hy => ?_) ?_⟩
    · have h1 := (List.Nodup.mem_erase_iff hm).mp hy
      exact (List.mem_cons.mp (hs y h1.2)).resolve_left h1.1
    · rw [List.length_erase_of_mem hxm]
      omega
theorem inj_of_nd {α β : Type} {f : α → β} : ∀ {l : List α}, (l.map f).Nodup → ∀ {x y : α}, x ∈ l → y ∈ l → f x = f y → x = y
  | a :: l, h, x, y, hx, hy, e => by
    rw [List.map_cons] at h
    obtain ⟨h1, h2⟩ := List.nodup_cons.mp h
    rcases List.mem_cons.mp hx with ex | hx
    · rcases List.mem_cons.mp hy with ey | hy
      · exact ex.trans ey.symm
      · exact absurd (List.mem_map.mpr ⟨y, hy, e.symm.trans (congrArg f ex)⟩) h1
    · rcases List.mem_cons.mp hy with ey | hy
      · exact absurd (List.mem_map.mpr ⟨x, hx, e.trans (congrArg f ey)⟩) h1
      · exact inj_of_nd h2 hx hy e
theorem num_surj {α : Type} [DecidableEq α] {xs : List α} {r : Nat} (h : r < (keysOf xs).length) : ∃ i, i < xs.length ∧ (num xs).getD i 0 = r := by
  have hx := List.getElem?_eq_getElem h
  have hm : (keysOf xs)[r] ∈ xs := mem_keysOf.mp (List.getElem_mem h)
  obtain ⟨i, hi⟩ := List.mem_iff_getElem?.mp hm
  refine ⟨i, (List.getElem?_eq_some_iff.mp hi).1, ?_⟩
  rw [List.getD_eq_getElem?_getD, num_at hi]
  exact ixOf_uniq (keysOf_nd xs) hx
theorem num_eq {α : Type} [DecidableEq α] {xs : List α} {i j : Nat} {x y : α} (hx : xs[i]? = some x) (hy : xs[j]? = some y) : (num xs).getD i 0 = (num xs).getD j 0 ↔ x = y := by
  rw [List.getD_eq_getElem?_getD, List.getD_eq_getElem?_getD, num_at hx, num_at hy]
  show ixOf (keysOf xs) x = ixOf (keysOf xs) y ↔ _
  constructor
  · intro e
    have h1 := ixOf_get (mem_keysOf.mpr (List.mem_of_getElem? hx))
    have h2 := ixOf_get (mem_keysOf.mpr (List.mem_of_getElem? hy))
    rw [e, h2] at h1
    exact (Option.some.inj h1).symm
  · rintro rfl
    rfl
section
variable {ans : List Ans} {goals : List (List Nat)}
theorem sig_at {g : List Nat} {a : Nat} (h : a < goals.length) : (sigsOf g goals)[a]? = some (g.getD a 0, (goals.getD a []).map fun j => g.getD j 0) := by
  unfold sigsOf
  rw [List.getElem?_map, List.getElem?_range h]
  rfl
theorem refN_surj (hag : ans.length = goals.length) : ∀ k r, r < cntN ans goals k → ∃ a, a < goals.length ∧ (refN ans goals k).getD a 0 = r
  | 0, r, h => by
    obtain ⟨i, h1, h2⟩ := num_surj (xs := ans) h
    exact ⟨i, by omega, h2⟩
  | k + 1, r, h => by
    obtain ⟨i, h1, h2⟩ := num_surj (xs := sigsOf (refN ans goals k) goals) h
    unfold sigsOf at h1
    rw [List.length_map, List.length_range] at h1
    exact ⟨i, h1, h2⟩
theorem refN_down {k a b : Nat} (ha : a < goals.length) (hb : b < goals.length) (h : (refN ans goals (k + 1)).getD a 0 = (refN ans goals (k + 1)).getD b 0) :
    (refN ans goals k).getD a 0 = (refN ans goals k).getD b 0 ∧ (goals.getD a []).map (fun j => (refN ans goals k).getD j 0) = (goals.getD b []).map fun j => (refN ans goals k).getD j 0 := by
  have e := (num_eq (sig_at (g := refN ans goals k) ha) (sig_at (g := refN ans goals k) hb)).mp h
  exact ⟨congrArg Prod.fst e, congrArg Prod.snd e⟩
theorem refN_ans (hag : ans.length = goals.length) : ∀ k a b, a < goals.length → b < goals.length → (refN ans goals k).getD a 0 = (refN ans goals k).getD b 0 → ans.getD a none = ans.getD b none
  | 0, a, b, ha, hb, h => by
    have h1 := List.getElem?_eq_getElem (show a < ans.length by omega)
    have h2 := List.getElem?_eq_getElem (show b < ans.length by omega)
    have e := (num_eq h1 h2).mp h
    rw [List.getD_eq_getElem?_getD, List.getD_eq_getElem?_getD, h1, h2]
    exact e
  | k + 1, a, b, ha, hb, h => refN_ans hag k a b ha hb (refN_down ha hb h).1
/-- where the refinement ends, what stands in one group is led into one group -/
theorem stable (hag : ans.length = goals.length) {k : Nat} (hc : cntN ans goals (k + 1) ≤ cntN ans goals k) (hgo : ∀ l ∈ goals, ∀ g ∈ l, g < goals.length) {a b : Nat} (ha : a < goals.length) (hb : b < goals.length)
    (h : (refN ans goals (k + 1)).getD a 0 = (refN ans goals (k + 1)).getD b 0) : (goals.getD a []).map (fun j => (refN ans goals (k + 1)).getD j 0) = (goals.getD b []).map fun j => (refN ans goals (k + 1)).getD j 0 := by
  have nd : ((keysOf (sigsOf (refN ans goals k) goals)).map Prod.fst).Nodup := by
    refine nodup_of_cover _ (List.range (cntN ans goals k)) List.nodup_range (fun r hr => ?_) ?_
    · obtain ⟨c, hc1, hc2⟩ := refN_surj hag k r (List.mem_range.mp hr)
      exact List.mem_map.mpr ⟨_, mem_keysOf.mpr (List.mem_of_getElem? (sig_at hc1)), hc2⟩
    · rw [List.length_map, List.length_range]
      exact hc
  have up : ∀ x y, x < goals.length → y < goals.length → (refN ans goals k).getD x 0 = (refN ans goals k).getD y 0 → (refN ans goals (k + 1)).getD x 0 = (refN ans goals (k + 1)).getD y 0 := fun x y hx hy e =>
    (num_eq (sig_at hx) (sig_at hy)).mpr (inj_of_nd nd (mem_keysOf.mpr (List.mem_of_getElem? (sig_at hx))) (mem_keysOf.mpr (List.mem_of_getElem? (sig_at hy))) e)
  have e := (refN_down ha hb h).2
  have hla : ∀ j ∈ goals.getD a [], j < goals.length := fun j hj => by
    rw [List.getD_eq_getElem?_getD, List.getElem?_eq_getElem ha] at hj
    exact hgo _ (List.getElem_mem ha) j hj
  have hlb : ∀ j ∈ goals.getD b [], j < goals.length := fun j hj => by
    rw [List.getD_eq_getElem?_getD, List.getElem?_eq_getElem hb] at hj
    exact hgo _ (List.getElem_mem hb) j hj
  generalize goals.getD a [] = la at e hla
  generalize goals.getD b [] = lb at e hlb
  clear h ha hb
  induction la generalizing lb with
  | nil =>
    cases lb with
    | nil => rfl
    | cons y lb => cases e
  | cons x la ih =>
    cases lb with
    | nil => cases e
    | cons y lb =>
      rw [List.map_cons, List.map_cons] at e ⊢
      injection e with e1 e2
      rw [up x y (hla x (List.mem_cons_self ..)) (hlb y (List.mem_cons_self ..)) e1, ih (fun j hj => hla j (List.mem_cons_of_mem _ hj)) lb e2 fun j hj => hlb j (List.mem_cons_of_mem _ hj)]
/-- the rows of the groups -/
theorem groups_rows (hag : ans.length = goals.length) (hpos : 0 < goals.length) (hgo : ∀ l ∈ goals, ∀ g ∈ l, g < goals.length) {g : List Nat} (G : GroupsR ans goals g) :
    g.length = goals.length ∧ (∀ a, a < goals.length → (rowsM ans goals g)[g.getD a 0]? = some (rowAt ans goals g a)) ∧ (∀ r, r < (rowsM ans goals g).length → ∃ a, a < goals.length ∧ g.getD a 0 = r) ∧ g.getD 0 0 = 0 := by
  obtain ⟨k, h1, h2, rfl⟩ := G
  have hl := refN_len hag k
  have hk : ∃ j, k = j + 1 := by
    cases k with
    | succ j => exact ⟨j, rfl⟩
    | zero =>
      exfalso
      apply h2
      show 0 < (keysOf ans).length
      have hm : ans[0]'(by omega) ∈ keysOf ans := mem_keysOf.mpr (List.getElem_mem _)
      exact List.length_pos_of_mem hm
  obtain ⟨j, rfl⟩ := hk
  obtain ⟨c, hcan, hcn⟩ := refN_canon ans goals (j + 1)
  have hcn := hcn (Nat.le_refl _)
  have hrl : (rowsM ans goals (refN ans goals (j + 1))).length = cntN ans goals (j + 1) := (canon_rows hcan _ (Nat.le_refl _)).trans hcn
  refine ⟨hl, fun a ha => ?_, fun r hr => refN_surj hag (j + 1) r (by omega), ?_⟩
  · have hlt := canon_lt hcan (i := a) (by omega)
    obtain ⟨b, hb, e1, e2⟩ := rows_first (ans := ans) (goals := goals) hcan _ (Nat.le_refl _) _ hlt
    refine e2.trans (congrArg some ?_)
    have hb2 : b < goals.length := by omega
    unfold rowAt
    rw [refN_ans hag (j + 1) b a hb2 ha e1, stable hag (Nat.not_lt.mp h2) hgo hb2 ha e1]
  · have := (hcan.2 0 (by omega)).1
    rw [hcan.1] at this
    omega
end
end Mw


set_option Elab.async false
set_option linter.all false
set_option maxRecDepth 100000
set_option maxHeartbeats 4000000
namespace Mw
section
variable {p : Pr} {es : List Ent}
theorem mem_visit_old {s x : Sta} {cs : List Nat} {fs : List Sta} (h : x ∈ fs) : x ∈ visit p es fs s cs := by
  obtain ⟨g, e⟩ := visit_ext (p := p) (es := es) (s := s) (cs := cs) (fs := fs)
  rw [e]
  exact List.mem_append_left _ h
theorem mem_visit_step {s : Sta} : ∀ {cs : List Nat} {fs : List Sta} {c : Nat}, c ∈ cs → stepM p es s c ∈ visit p es fs s cs
  | d :: cs, fs, c, h => by
    show stepM p es s c ∈ visit p es (visit1 p es s fs d) s cs
    rcases List.mem_cons.mp h with rfl | h
    · refine mem_visit_old ?_
      unfold visit1
      split
      · assumption
      · exact List.mem_append_right _ (List.mem_singleton.mpr rfl)
    · exact mem_visit_step h
theorem bfs_done : ∀ (k i : Nat) (s : Sta), i < k → (bfsN p es k)[i]? = some s → ∀ c ∈ tried es, stepM p es s c ∈ bfsN p es k
  | 0, i, s, h, _, _, _ => absurd h (Nat.not_lt_zero _)
  | k + 1, i, s, hi, h, c, hc => by
    have ih := bfs_done k
    cases hk : (bfsN p es k)[k]? with
    | none =>
      have e : bfsN p es (k + 1) = bfsN p es k := by
        show (match (bfsN p es k)[k]? with | some s => visit p es (bfsN p es k) s (tried es) | none => bfsN p es k) = _
        rw [hk]
      rw [e] at h ⊢
      have hlen := List.getElem?_eq_none_iff.mp hk
      have hi2 := (List.getElem?_eq_some_iff.mp h).1
      exact ih i s (by omega) h c hc
    | some t =>
      have e : bfsN p es (k + 1) = visit p es (bfsN p es k) t (tried es) := by
        show (match (bfsN p es k)[k]? with | some s => visit p es (bfsN p es k) s (tried es) | none => bfsN p es k) = _
        rw [hk]
      obtain ⟨g, eg⟩ := visit_ext (p := p) (es := es) (s := t) (cs := tried es) (fs := bfsN p es k)
      have hkl := (List.getElem?_eq_some_iff.mp hk).1
      rcases Nat.lt_or_ge i k with z | z
      · have h2 : (bfsN p es k)[i]? = some s := by
          rw [e, eg, List.getElem?_append_left (by omega)] at h
          exact h
        rw [e]
        exact mem_visit_old (ih i s z h2 c hc)
      · have : i = k := by omega
        subst this
        have h2 : some t = some s := by
          rw [e, eg, List.getElem?_append_left hkl, hk] at h
          exact h
        cases (Option.some.inj h2)
        rw [e]
        exact mem_visit_step hc
theorem start_bfs : ∀ k, startM p es ∈ bfsN p es k
  | 0 => List.mem_singleton.mpr rfl
  | k + 1 => by
    have ih := start_bfs k
    unfold bfsN
    split
    · exact mem_visit_old ih
    · exact ih
theorem all_closed {M : List Sta} (m : Closed p es M) (h : M.length ≤ 2000) : Closed p es (allM p es) ∧ Fnd (p := p) (es := es) M (allM p es) := by
  have f := fnd_bfs m 2000
  have hl := f.len
  have e : allM p es = bfsN p es 2000 := allM_of (by omega) (by omega)
  rw [e]
  refine ⟨⟨start_bfs _, fun s hs c hc => ?_⟩, f⟩
  obtain ⟨i, hi⟩ := List.mem_iff_getElem?.mp hs
  have := (List.getElem?_eq_some_iff.mp hi).1
  exact bfs_done 2000 i s (by omega) hi c hc
theorem bfs_head : ∀ k, (bfsN p es k)[0]? = some (startM p es)
  | 0 => rfl
  | k + 1 => by
    have ih := bfs_head k
    unfold bfsN
    split
    · rename_i t _
      obtain ⟨g, eg⟩ := visit_ext (p := p) (es := es) (s := t) (cs := tried es) (fs := bfsN p es k)
      rw [eg, List.getElem?_append_left (List.getElem?_eq_some_iff.mp ih).1]
      exact ih
    · exact ih
theorem all_head : (allM p es)[0]? = some (startM p es) := by
  unfold allM
  exact bfs_head 2001
end
def ansM (L : Lis) (fs : List Sta) : List Ans := fs.map fun s => heardM L s.row
/-- rows are those of the smallest machine of L -/
def MachR (L : Lis) (rows : List MRow) : Prop := ∃ g, GroupsR (ansM L (allM L.p L.es)) (goalsM L.p L.es (allM L.p L.es)) g ∧ rows = rowsM (ansM L (allM L.p L.es)) (goalsM L.p L.es (allM L.p L.es)) g
theorem MachR.uniq {L : Lis} {a b : List MRow} (h : MachR L a) (k : MachR L b) : a = b := by
  obtain ⟨g, h1, rfl⟩ := h
  obtain ⟨g2, k1, rfl⟩ := k
  rw [h1.uniq k1]
/-- rows tell what L tells: grp the row of a state -/
structure Sim (L : Lis) (rows : List MRow) (fs : List Sta) (grp : Sta → Nat) : Prop where
  start : startM L.p L.es ∈ fs
  step : ∀ s ∈ fs, ∀ c ∈ alphaL, stepM L.p L.es s c ∈ fs
  g0 : grp (startM L.p L.es) = 0
  row : ∀ s ∈ fs, rows[grp s]? = some (heardM L s.row, alphaL.map fun c => grp (stepM L.p L.es s c))
  all : ∀ r, r < rows.length → ∃ s ∈ fs, grp s = r
theorem goalsM_lt {p : Pr} {es : List Ent} {fs : List Sta} (ok : EntsOk es) (cl : Closed p es fs) : ∀ l ∈ goalsM p es fs, l.length = 26 ∧ ∀ g ∈ l, g < (goalsM p es fs).length := fun l hl => by
  obtain ⟨s, hs, rfl⟩ := List.mem_map.mp hl
  refine ⟨by rw [List.length_map]; decide, fun g hg => ?_⟩
  obtain ⟨c, hc, rfl⟩ := List.mem_map.mp hg
  obtain ⟨d, hd, e⟩ := step_tried (p := p) ok hc
  unfold goalsM
  rw [List.length_map, e]
  exact ixOf_lt (cl.step s hs d hd)
theorem mach_sim {L : Lis} {rows : List MRow} {M : List Sta} (ok : LisOk L) (m : Closed L.p L.es M) (hM : M.length ≤ 2000) (h : MachR L rows) : ∃ grp, Sim L rows (allM L.p L.es) grp := by
  obtain ⟨cl, f⟩ := all_closed m hM
  obtain ⟨g, G, rfl⟩ := h
  have hag : (ansM L (allM L.p L.es)).length = (goalsM L.p L.es (allM L.p L.es)).length := by unfold ansM goalsM; rw [List.length_map, List.length_map]
  have hgl : (goalsM L.p L.es (allM L.p L.es)).length = (allM L.p L.es).length := by unfold goalsM; rw [List.length_map]
  have hpos := List.length_pos_of_mem cl.start
  obtain ⟨g1, g2, g3, g4⟩ := groups_rows hag (by omega) (fun l hl => (goalsM_lt ok.es cl l hl).2) G
  have stp : ∀ s ∈ allM L.p L.es, ∀ c ∈ alphaL, stepM L.p L.es s c ∈ allM L.p L.es := fun s hs c hc => by
    obtain ⟨d, hd, e⟩ := step_tried (p := L.p) ok.es hc
    rw [e]
    exact cl.step s hs d hd
  refine ⟨fun s => g.getD (ixOf (allM L.p L.es) s) 0, cl.start, stp, ?_, fun s hs => ?_, fun r hr => ?_⟩
  · show g.getD (ixOf (allM L.p L.es) (startM L.p L.es)) 0 = 0
    rw [ixOf_uniq f.nd all_head]
    exact g4
  · have hi := ixOf_lt hs
    have := g2 (ixOf (allM L.p L.es) s) (by omega)
    refine this.trans (congrArg some ?_)
    have hs2 := ixOf_get hs
    unfold rowAt
    have e1 : (ansM L (allM L.p L.es)).getD (ixOf (allM L.p L.es) s) none = heardM L s.row := by
      unfold ansM
      rw [List.getD_eq_getElem?_getD, List.getElem?_map, hs2]
      rfl
    have e2 : (goalsM L.p L.es (allM L.p L.es)).getD (ixOf (allM L.p L.es) s) [] = alphaL.map fun c => ixOf (allM L.p L.es) (stepM L.p L.es s c) := by
      unfold goalsM
      rw [List.getD_eq_getElem?_getD, List.getElem?_map, hs2]
      rfl
    rw [e1, e2, List.map_map]
    rfl
  · obtain ⟨a, ha, e⟩ := g3 r hr
    have ha2 : a < (allM L.p L.es).length := by omega
    refine ⟨(allM L.p L.es)[a], List.getElem_mem ha2, ?_⟩
    show g.getD (ixOf (allM L.p L.es) (allM L.p L.es)[a]) 0 = r
    rw [ixOf_uniq f.nd (List.getElem?_eq_getElem ha2)]
    exact e
theorem heard_word {L : Lis} {row : List (List Int)} {x : List Nat} (h : heardM L row = some x) : ∃ e ∈ L.es, e.1 = x := by
  unfold heardM at h
  split at h
  · cases h
  · rename_i hne
    split at h
    · cases h
    · cases h
      have hpos : 0 < L.es.length := List.length_pos_iff.mpr hne
      have lt : leastAt (totals L.es row) < L.es.length := by
        have := best_lt (bt := fun i j => decide ((totals L.es row).getD i 0 < (totals L.es row).getD j 0)) ((totals L.es row).length - 1)
        have e : (totals L.es row).length = L.es.length := by unfold totals; rw [List.length_map, List.length_range]
        unfold leastAt
        omega
      refine ⟨L.es.getD (leastAt (totals L.es row)) ([], 0), ?_, rfl⟩
      rw [List.getD_eq_getElem?_getD, List.getElem?_eq_getElem lt]
      exact List.getElem_mem lt
end Mw


set_option Elab.async false
set_option linter.all false
set_option maxRecDepth 100000
set_option maxHeartbeats 4000000
namespace Mw
/-! ### the targets of a row with their first letters -/
def gstep (acc : List (Nat × Nat)) (q : Nat × Nat) : List (Nat × Nat) := if q.1 ∈ acc.map (·.1) then acc else acc ++ [q]
def goalsF (targets : List Nat) : List (Nat × Nat) := (targets.zip alphaL).foldl gstep []
theorem gstep_keys {acc : List (Nat × Nat)} {q : Nat × Nat} {g : Nat} : g ∈ (gstep acc q).map (·.1) ↔ g ∈ acc.map (·.1) ∨ g = q.1 := by
  unfold gstep
  split
  · rename_i h
    exact ⟨.inl, fun z => z.elim id fun e => e ▸ h⟩
  · rw [List.map_append, List.mem_append]
    simp
theorem gfold : ∀ (qs acc : List (Nat × Nat)), (acc.map (·.1)).Nodup → ((qs.foldl gstep acc).map (·.1)).Nodup ∧ (∀ g, g ∈ (qs.foldl gstep acc).map (·.1) ↔ g ∈ acc.map (·.1) ∨ g ∈ qs.map (·.1)) ∧ ∀ x ∈ qs.foldl gstep acc, x ∈ acc ∨ x ∈ qs
  | [], acc, h => ⟨h, fun g => by simp, fun x hx => .inl hx⟩
  | q :: qs, acc, h => by
    have hn : ((gstep acc q).map (·.1)).Nodup := by
      unfold gstep
      split
      · exact h
      · rename_i hq
        rw [List.map_append, List.nodup_append]
        refine ⟨h, List.nodup_cons.mpr ⟨List.not_mem_nil, List.nodup_nil⟩, fun a ha b hb e => ?_⟩
        rw [List.mem_singleton.mp hb] at e
        exact hq (by rw [← show a = q.1 from e]; exact ha)
    obtain ⟨h1, h2, h3⟩ := gfold qs (gstep acc q) hn
    refine ⟨h1, fun g => ?_, fun x hx => ?_⟩
    · show g ∈ (qs.foldl gstep (gstep acc q)).map (·.1) ↔ _
      rw [h2, gstep_keys, List.map_cons, List.mem_cons, or_assoc]
    · rcases h3 x hx with z | z
      · unfold gstep at z
        split at z
        · exact .inl z
        · rcases List.mem_append.mp z with y | y
          · exact .inl y
          · rw [List.mem_singleton.mp y]
            exact .inr (List.mem_cons_self ..)
      · exact .inr (List.mem_cons_of_mem _ z)
theorem goalsF_nd (ts : List Nat) : ((goalsF ts).map (·.1)).Nodup := (gfold _ [] List.nodup_nil).1
theorem goalsF_mem {ts : List Nat} {x : Nat × Nat} (h : x ∈ goalsF ts) : ∃ i : Nat, ts[i]? = some x.1 ∧ alphaL[i]? = some x.2 := by
  have := (gfold (ts.zip alphaL) [] List.nodup_nil).2.2 x h
  rcases this with z | z
  · cases z
  · obtain ⟨i, hi⟩ := List.mem_iff_getElem?.mp z
    rw [List.getElem?_zip_eq_some] at hi
    exact ⟨i, hi⟩
theorem goalsF_all {ts : List Nat} (hl : ts.length ≤ 26) {i g : Nat} (h : ts[i]? = some g) : ∃ c, (g, c) ∈ goalsF ts := by
  have h2 := ((gfold (ts.zip alphaL) [] List.nodup_nil).2.1 g).mpr (.inr ?_)
  · obtain ⟨x, hx, e⟩ := List.mem_map.mp h2
    exact ⟨x.2, by rw [← e]; exact hx⟩
  · have hi := (List.getElem?_eq_some_iff.mp h).1
    have ha : i < alphaL.length := by
      have : alphaL.length = 26 := by decide
      omega
    refine List.mem_map.mpr ⟨(g, alphaL[i]), ?_, rfl⟩
    refine List.mem_of_getElem? (i := i) ?_
    rw [List.getElem?_zip_eq_some]
    exact ⟨h, List.getElem?_eq_getElem ha⟩
theorem goalsF_len (ts : List Nat) : (goalsF ts).length ≤ 26 := by
  have : ∀ (qs acc : List (Nat × Nat)), (qs.foldl gstep acc).length ≤ acc.length + qs.length := by
    intro qs
    induction qs with
    | nil => intro acc; exact Nat.le_refl _
    | cons q qs ih =>
      intro acc
      have h1 := ih (gstep acc q)
      have h2 : (gstep acc q).length ≤ acc.length + 1 := by
        unfold gstep
        split
        · omega
        · rw [List.length_append]; exact Nat.le_refl _
      show (qs.foldl gstep (gstep acc q)).length ≤ _
      rw [List.length_cons]
      omega
  have h := this (ts.zip alphaL) []
  have h2 : (ts.zip alphaL).length ≤ 26 := by
    rw [List.length_zip]
    have : alphaL.length = 26 := by decide
    omega
  unfold goalsF
  rw [List.length_nil] at h
  omega
/-! ### edges -/
structure Edge where
  ch : Nat
  go : Nat
  lt : Nat
def edgeR (rows : List MRow) (a : Ans) (q : Nat × Nat) : Edge := ⟨if (rows.getD q.1 (none, [])).1 = a then 0 else 1, q.1, q.2⟩
def edgesR (rows : List MRow) (r : MRow) : List Edge := (goalsF r.2).map (edgeR rows r.1)
def edgesM (rows : List MRow) : List (List Edge) := rows.map (edgesR rows)
end Mw


set_option Elab.async false
set_option linter.all false
set_option maxRecDepth 100000
set_option maxHeartbeats 4000000
namespace Mw
/-! ### paths through rows -/
def rowGo (rows : List MRow) (r c : Nat) : Nat := (rows.getD r (none, [])).2.getD (c - 97) 0
def rowPath (rows : List MRow) (r : Nat) (t : List Nat) : Nat := t.foldl (rowGo rows) r
theorem rowPath_snoc {rows : List MRow} {r : Nat} {t : List Nat} {c : Nat} : rowPath rows r (t ++ [c]) = rowGo rows (rowPath rows r t) c := by
  unfold rowPath
  rw [List.foldl_append]
  rfl
theorem rowPath_app {rows : List MRow} {r : Nat} {t u : List Nat} : rowPath rows r (t ++ u) = rowPath rows (rowPath rows r t) u := List.foldl_append ..
theorem alpha_at {i c : Nat} (h : alphaL[i]? = some c) : c = 97 + i ∧ i < 26 := by
  unfold alphaL at h
  rw [List.getElem?_map] at h
  obtain ⟨j, hj, rfl⟩ := Option.map_eq_some_iff.mp h
  have := (List.getElem?_eq_some_iff.mp hj).1
  rw [List.length_range] at this
  rw [List.getElem?_range this] at hj
  cases hj
  exact ⟨rfl, this⟩
theorem alpha_mem {c : Nat} (h : c ∈ alphaL) : 97 ≤ c ∧ c - 97 < 26 ∧ alphaL[c - 97]? = some c := by
  obtain ⟨i, hi⟩ := List.mem_iff_getElem?.mp h
  obtain ⟨rfl, h2⟩ := alpha_at hi
  exact ⟨by omega, by omega, by rw [show 97 + i - 97 = i by omega]; exact hi⟩
/-! ### the texts that lead to rows -/
abbrev Tm := List (Nat × List Nat)
abbrev tmk (tm : Tm) : List Nat := tm.map (·.1)
structure TmOk (rows : List MRow) (tm : Tm) : Prop where
  nd : (tmk tm).Nodup
  lt : ∀ g ∈ tmk tm, g < rows.length
  at_ : ∀ (i : Nat) g t, tm[i]? = some (g, t) → rowPath rows 0 t = g ∧ (∀ c ∈ t, c ∈ alphaL) ∧ t.length ≤ i
theorem TmOk.len {rows : List MRow} {tm : Tm} (h : TmOk rows tm) : tm.length ≤ rows.length := by
  have := nodup_len (tmk tm) (List.range rows.length) h.nd fun g hg => List.mem_range.mpr (h.lt g hg)
  rw [List.length_map, List.length_range] at this
  exact this
theorem TmOk.start {rows : List MRow} (h : 0 < rows.length) : TmOk rows [(0, [])] where
  nd := List.nodup_cons.mpr ⟨List.not_mem_nil, List.nodup_nil⟩
  lt := fun g hg => by rw [List.mem_singleton.mp hg]; exact h
  at_ := fun i g t e => by
    cases i with
    | zero =>
      cases (Option.some.inj e)
      exact ⟨rfl, (fun c hc => by cases hc), Nat.le_refl _⟩
    | succ i => cases e
theorem TmOk.snoc {rows : List MRow} {tm : Tm} (h : TmOk rows tm) {i g : Nat} {t : List Nat} {q : Nat × Nat} (hi : tm[i]? = some (g, t)) (hq : q ∈ goalsF (rows.getD g (none, [])).2) (hlt : q.1 < rows.length) (hn : q.1 ∉ tmk tm) : TmOk rows (tm ++ [(q.1, t ++ [q.2])]) where
  nd := by
    rw [show tmk (tm ++ [(q.1, t ++ [q.2])]) = tmk tm ++ [q.1] from List.map_append .., List.nodup_append]
    refine ⟨h.nd, List.nodup_cons.mpr ⟨List.not_mem_nil, List.nodup_nil⟩, fun a ha b hb e => ?_⟩
    rw [List.mem_singleton.mp hb] at e
    exact hn (e ▸ ha)
  lt := fun x hx => by
    rw [show tmk (tm ++ [(q.1, t ++ [q.2])]) = tmk tm ++ [q.1] from List.map_append ..] at hx
    rcases List.mem_append.mp hx with z | z
    · exact h.lt x z
    · rw [List.mem_singleton.mp z]; exact hlt
  at_ := fun j x u e => by
    rcases Nat.lt_or_ge j tm.length with z | z
    · rw [List.getElem?_append_left z] at e
      exact h.at_ j x u e
    · rw [List.getElem?_append_right z] at e
      obtain ⟨e1, e2, e3⟩ := h.at_ i g t hi
      have hil := (List.getElem?_eq_some_iff.mp hi).1
      cases hk : j - tm.length with
      | succ k => rw [hk] at e; cases e
      | zero =>
        rw [hk] at e
        cases (Option.some.inj e)
        obtain ⟨k, hk1, hk2⟩ := goalsF_mem hq
        obtain ⟨ec, hk26⟩ := alpha_at hk2
        refine ⟨?_, fun c hc => ?_, by rw [List.length_append]; show t.length + 1 ≤ j; omega⟩
        · rw [rowPath_snoc, e1]
          unfold rowGo
          rw [ec, show 97 + k - 97 = k by omega, List.getD_eq_getElem?_getD, hk1]
          rfl
        · rcases List.mem_append.mp hc with y | y
          · exact e2 c y
          · rw [List.mem_singleton.mp y]
            exact List.mem_of_getElem? hk2
/-- all rows that are reached stand in it -/
def TmAll (rows : List MRow) (tm : Tm) : Prop := 0 ∈ tmk tm ∧ ∀ g ∈ tmk tm, ∀ q ∈ goalsF (rows.getD g (none, [])).2, q.1 ∈ tmk tm
theorem TmAll.step {rows : List MRow} {tm : Tm} (h : TmAll rows tm) (h26 : ∀ r ∈ rows, r.2.length = 26) (ok : TmOk rows tm) {g c : Nat} (i1 : g ∈ tmk tm) (hca : c ∈ alphaL) : rowGo rows g c ∈ tmk tm := by
  obtain ⟨a1, a2, a3⟩ := alpha_mem hca
  have hlt := ok.lt _ i1
  have hr := h26 _ (List.getElem_mem hlt)
  have hg : rows.getD g (none, []) = rows[g] := by rw [List.getD_eq_getElem?_getD, List.getElem?_eq_getElem hlt]; rfl
  have hx : (rows.getD g (none, [])).2[c - 97]? = some (rowGo rows g c) := by
    unfold rowGo
    rw [List.getD_eq_getElem?_getD (l := (rows.getD _ _).2), List.getElem?_eq_getElem (by rw [hg, hr]; exact a2)]
    rfl
  obtain ⟨d, hd⟩ := goalsF_all (by rw [hg, hr]; exact Nat.le_refl _) hx
  exact h.2 _ i1 _ hd
theorem TmAll.path {rows : List MRow} {tm : Tm} (h : TmAll rows tm) (h26 : ∀ r ∈ rows, r.2.length = 26) (ok : TmOk rows tm) : ∀ {t : List Nat} {g : Nat}, g ∈ tmk tm → (∀ c ∈ t, c ∈ alphaL) → rowPath rows g t ∈ tmk tm
  | [], g, hg, _ => hg
  | c :: t, g, hg, hc => TmAll.path h h26 ok (t := t) (h.step h26 ok hg (hc c (List.mem_cons_self ..))) fun d hd => hc d (List.mem_cons_of_mem _ hd)
end Mw


set_option Elab.async false
set_option linter.all false
set_option maxRecDepth 100000
set_option maxHeartbeats 4000000
namespace Mw
/-! ### worths and choices -/
section
variable (p q : Int)
def cost (e : Edge) : Int := q * (e.ch : Int) - p
/-- a way along the choices: its sum, its length -/
inductive Way (C : Nat → Option Edge) : Nat → Nat → Int → Nat → Prop
  | nil (i : Nat) : Way C i i 0 0
  | cons {i j : Nat} {e : Edge} {s : Int} {k : Nat} : C i = some e → Way C e.go j s k → Way C i j (cost p q e + s) (k + 1)
structure FInv (E : Nat → Edge → Prop) (W : Nat → Int) (C : Nat → Option Edge) : Prop where
  slack : ∀ i e, C i = some e → W i ≤ cost p q e + W e.go
  edge : ∀ i e, C i = some e → E i e
  zero : ∀ i, C i = none → W i = 0
  pos : ∀ i, 0 ≤ W i
  cyc : ∀ i s k, Way p q C i i s (k + 1) → 0 < s
end
def updF {α : Type} (f : Nat → α) (i : Nat) (a : α) : Nat → α := fun j => if j = i then a else f j
theorem updF_same {α : Type} {f : Nat → α} {i : Nat} {a : α} : updF f i a i = a := if_pos rfl
theorem updF_ne {α : Type} {f : Nat → α} {i j : Nat} {a : α} (h : j ≠ i) : updF f i a j = f j := if_neg h
section
variable {p q : Int} {E : Nat → Edge → Prop} {W : Nat → Int} {C : Nat → Option Edge}
theorem Way.le {C : Nat → Option Edge} {W : Nat → Int} (hs : ∀ i e, C i = some e → W i ≤ cost p q e + W e.go) {i j : Nat} {s : Int} {k : Nat} (h : Way p q C i j s k) : W i ≤ s + W j := by
  induction h with
  | nil i => omega
  | cons h1 h2 ih =>
    have := hs _ _ h1
    omega
theorem FInv.step (h : FInv p q E W C) {i : Nat} {e : Edge} (hE : E i e) (hgt : W i < cost p q e + W e.go) : FInv p q E (updF W i (cost p q e + W e.go)) (updF C i (some e)) := by
  have mono : ∀ j, W j ≤ updF W i (cost p q e + W e.go) j := fun j => by
    by_cases z : j = i
    · subst z; rw [updF_same]; omega
    · rw [updF_ne z]; exact Int.le_refl _
  have slack : ∀ j f, updF C i (some e) j = some f → updF W i (cost p q e + W e.go) j ≤ cost p q f + updF W i (cost p q e + W e.go) f.go := fun j f hf => by
    by_cases z : j = i
    · subst z
      rw [updF_same] at hf
      cases hf
      rw [updF_same]
      have := mono e.go
      omega
    · rw [updF_ne z] at hf ⊢
      have h1 := h.slack j f hf
      have := mono f.go
      omega
  -- an edge into i has room to spare
  have into : ∀ j f, updF C i (some e) j = some f → f.go = i → updF W i (cost p q e + W e.go) j < cost p q f + updF W i (cost p q e + W e.go) f.go := fun j f hf hg => by
    rw [hg, updF_same]
    by_cases z : j = i
    · subst z
      rw [updF_same] at hf
      cases hf
      rw [updF_same]
      rw [hg] at hgt ⊢
      omega
    · rw [updF_ne z] at hf ⊢
      have h1 := h.slack j f hf
      rw [hg] at h1
      omega
  have strict : ∀ {a b : Nat} {s : Int} {k : Nat}, Way p q (updF C i (some e)) a b s k → 0 < k → b = i → updF W i (cost p q e + W e.go) a < s + updF W i (cost p q e + W e.go) b := by
    intro a b s k w
    induction w with
    | nil a => intro h0; omega
    | @cons a b f s k h1 h2 ih =>
      intro _ hb
      cases k with
      | zero =>
        cases h2
        have := into _ _ h1 hb
        omega
      | succ k =>
        have h3 := ih (by omega) hb
        have h4 := slack _ _ h1
        omega
  have away : ∀ {a b : Nat} {s : Int} {k : Nat}, Way p q (updF C i (some e)) a b s k → a ≠ i → updF W i (cost p q e + W e.go) a < s + updF W i (cost p q e + W e.go) b ∨ (Way p q C a b s k ∧ b ≠ i) := by
    intro a b s k w
    induction w with
    | nil a => intro ha; exact .inr ⟨.nil a, ha⟩
    | @cons a b f s k h1 h2 ih =>
      intro ha
      have h3 : C a = some f := by rw [updF_ne ha] at h1; exact h1
      by_cases z : f.go = i
      · have h4 := into _ _ h1 z
        have h5 := h2.le slack
        exact .inl (by omega)
      · rcases ih z with h4 | ⟨h4, h5⟩
        · have h6 := slack _ _ h1
          exact .inl (by omega)
        · exact .inr ⟨.cons h3 h4, h5⟩
  refine ⟨slack, fun j f hf => ?_, fun j hj => ?_, fun j => ?_, fun j s k w => ?_⟩
  · by_cases z : j = i
    · subst z
      rw [updF_same] at hf
      cases hf
      exact hE
    · rw [updF_ne z] at hf
      exact h.edge j f hf
  · by_cases z : j = i
    · subst z
      rw [updF_same] at hj
      cases hj
    · rw [updF_ne z] at hj ⊢
      exact h.zero j hj
  · have := mono j
    have := h.pos j
    omega
  · by_cases z : j = i
    · have := strict w (by omega) z
      omega
    · rcases away w z with h1 | ⟨h1, _⟩
      · omega
      · exact h.cyc j s k h1
theorem FInv.start : FInv p q E (fun _ => 0) (fun _ => none) where
  slack := fun i e h => by cases h
  edge := fun i e h => by cases h
  zero := fun _ _ => rfl
  pos := fun _ => Int.le_refl _
  cyc := fun i s k w => by cases w with | cons h _ => cases h
/-- where every choice leads to an end within m, worths are small -/
theorem Way.bound (hp : 0 ≤ p) (hq : 0 ≤ q) (h1 : ∀ i e, E i e → e.ch ≤ 1) (h : FInv p q E W C) {i j : Nat} {s : Int} {k : Nat} (w : Way p q C i j s k) (hj : C j = none) : W i ≤ q * (k : Int) := by
  have hs : s ≤ q * (k : Int) := by
    induction w with
    | nil i => simp
    | @cons a b f s k e1 w2 ih =>
      have h2 := ih hj
      have h3 := h1 _ _ (h.edge _ _ e1)
      have h4 : cost p q f ≤ q := by
        unfold cost
        have : f.ch = 0 ∨ f.ch = 1 := by omega
        rcases this with z | z
        · rw [z]; simp; omega
        · rw [z]; simp; omega
      have h5 : q * ((k + 1 : Nat) : Int) = q * (k : Int) + q := by
        rw [show ((k + 1 : Nat) : Int) = (k : Int) + 1 by omega, Int.mul_add, Int.mul_one]
      omega
  have h6 := w.le h.slack
  rw [h.zero j hj] at h6
  omega
end
end Mw


set_option Elab.async false
set_option linter.all false
set_option maxRecDepth 100000
set_option maxHeartbeats 4000000
namespace Mw
open PySem (Paired)
/-- l is a way along the choices that ends before x -/
def ChainTo (C : Nat → Option Edge) : List Nat → Nat → Prop
  | [], _ => True
  | a :: l, x => (∃ e, C a = some e ∧ e.go = l.headD x) ∧ ChainTo C l x
theorem ChainTo.snoc {C : Nat → Option Edge} {a x : Nat} {e : Edge} (he : C a = some e) (hx : e.go = x) : ∀ {l : List Nat}, ChainTo C l a → ChainTo C (l ++ [a]) x
  | [], _ => ⟨⟨e, he, hx⟩, trivial⟩
  | b :: l, h => by
    obtain ⟨⟨f, h1, h2⟩, h3⟩ := h
    refine ⟨⟨f, h1, ?_⟩, ChainTo.snoc he hx h3⟩
    cases l with
    | nil => exact h2
    | cons c l => exact h2
theorem ChainTo.drop {C : Nat → Option Edge} {x : Nat} : ∀ {l : List Nat} (j : Nat), ChainTo C l x → ChainTo C (l.drop j) x
  | l, 0, h => h
  | [], j + 1, h => trivial
  | a :: l, j + 1, h => ChainTo.drop j h.2
/-- good: the way from here comes to an end within m -/
def Good (p q : Int) (C : Nat → Option Edge) (m i : Nat) : Prop := ∃ j s k, Way p q C i j s k ∧ C j = none ∧ k ≤ m
theorem Good.mono {p q : Int} {C : Nat → Option Edge} {m n i : Nat} (h : Good p q C m i) (hm : m ≤ n) : Good p q C n i := by
  obtain ⟨j, s, k, h1, h2, h3⟩ := h
  exact ⟨j, s, k, h1, h2, by omega⟩
theorem ChainTo.good {p q : Int} {C : Nat → Option Edge} {m x : Nat} (hx : Good p q C m x) : ∀ {l : List Nat}, ChainTo C l x → ∀ i ∈ l, Good p q C (m + l.length) i
  | a :: l, h, i, hi => by
    obtain ⟨⟨e, h1, h2⟩, h3⟩ := h
    have ih := ChainTo.good hx h3
    rcases List.mem_cons.mp hi with rfl | hi
    · have hg : Good p q C (m + l.length) e.go := by
        cases l with
        | nil =>
          rw [h2]
          exact hx
        | cons b l =>
          rw [h2]
          exact ih b (List.mem_cons_self ..)
      obtain ⟨j, s, k, w1, w2, w3⟩ := hg
      exact ⟨j, _, k + 1, .cons h1 w1, w2, by rw [List.length_cons]; omega⟩
    · exact (ih i hi).mono (by rw [List.length_cons]; omega)
/-- a ring of choices -/
structure RingR (C : Nat → Option Edge) (n : Nat) (ring : List Nat) : Prop where
  ne : ring ≠ []
  chain : ChainTo C ring (ring.headD 0)
  nd : ring.Nodup
  lt : ∀ i ∈ ring, i < n
/-- the edges of the ring -/
theorem ChainTo.way {p q : Int} {C : Nat → Option Edge} : ∀ {l : List Nat} {x : Nat}, ChainTo C l x → ∃ es : List Edge, Paired (fun i e => C i = some e) l es ∧ Way p q C (l.headD x) x ((es.map (cost p q)).sum) l.length
  | [], x, _ => ⟨[], .nil, .nil x⟩
  | a :: l, x, h => by
    obtain ⟨⟨e, h1, h2⟩, h3⟩ := h
    obtain ⟨es, h4, h5⟩ := ChainTo.way (p := p) (q := q) h3
    refine ⟨e :: es, .cons h1 h4, ?_⟩
    rw [List.map_cons, List.sum_cons, List.length_cons]
    exact .cons h1 (by rw [h2]; exact h5)
/-- a ring's edges change more often than p / q says -/
theorem RingR.gain {p q : Int} {E : Nat → Edge → Prop} {W : Nat → Int} {C : Nat → Option Edge} {n : Nat} {ring : List Nat} (h : RingR C n ring) (F : FInv p q E W C) : ∃ es : List Edge, Paired (fun i e => C i = some e) ring es ∧ 0 < (es.map (cost p q)).sum := by
  obtain ⟨es, h1, h2⟩ := h.chain.way (p := p) (q := q)
  refine ⟨es, h1, ?_⟩
  have hne := h.ne
  cases ring with
  | nil => exact absurd rfl hne
  | cons a l => exact F.cyc a _ _ h2
theorem cost_sum (p q : Int) : ∀ es : List Edge, (es.map (cost p q)).sum = q * ((es.map (·.ch)).sum : Nat) - p * (es.length : Int)
  | [] => by simp
  | e :: es => by
    have ih := cost_sum p q es
    rw [List.map_cons, List.sum_cons, ih, List.map_cons, List.sum_cons, List.length_cons]
    unfold cost
    have e1 : ((e.ch + (es.map (·.ch)).sum : Nat) : Int) = (e.ch : Int) + ((es.map (·.ch)).sum : Nat) := by omega
    have e2 : ((es.length + 1 : Nat) : Int) = (es.length : Int) + 1 := by omega
    rw [e1, e2, Int.mul_add, Int.mul_add, Int.mul_one]
    omega
end Mw


set_option Elab.async false
set_option linter.all false
set_option maxRecDepth 100000
set_option maxHeartbeats 4000000
namespace Mw
section
variable {p : Pr} {es : List Ent}
/-- every state that the search finds is where some text of tried letters leads -/
def Runs (p : Pr) (es : List Ent) (s : Sta) : Prop := ∃ t : List Nat, (∀ c ∈ t, c ∈ tried es) ∧ runM p es (startM p es) t = s
theorem Runs.step {s : Sta} {c : Nat} (h : Runs p es s) (hc : c ∈ tried es) : Runs p es (stepM p es s c) := by
  obtain ⟨t, h1, h2⟩ := h
  refine ⟨t ++ [c], fun d hd => ?_, ?_⟩
  · rcases List.mem_append.mp hd with y | y
    · exact h1 d y
    · rw [List.mem_singleton.mp y]; exact hc
  · unfold runM at h2 ⊢
    rw [List.foldl_append, h2]
    rfl
open Classical in
theorem Closed.runs {M : List Sta} (m : Closed p es M) : Closed p es (M.filter fun s => decide (Runs p es s)) where
  start := List.mem_filter.mpr ⟨m.start, decide_eq_true (show Runs p es (startM p es) from ⟨[], fun c hc => absurd hc List.not_mem_nil, rfl⟩)⟩
  step := fun s hs c hc => by
    obtain ⟨h1, h2⟩ := List.mem_filter.mp hs
    exact List.mem_filter.mpr ⟨m.step s h1 c hc, decide_eq_true ((of_decide_eq_true h2).step hc)⟩
theorem bfs_runs {M : List Sta} (m : Closed p es M) (k : Nat) : ∀ s ∈ bfsN p es k, Runs p es s := fun s hs => by
  classical
  have h := (fnd_bfs m.runs k).sub s hs
  exact of_decide_eq_true (List.mem_filter.mp h).2
end
end Mw


set_option Elab.async false
set_option linter.all false
set_option maxRecDepth 100000
set_option maxHeartbeats 4000000
namespace Mw
/-! ### memory: a state of a long enough stream is that of its last letters -/
theorem nextW_get {p : Pr} {w : List Nat} {here : List Int} {eld : Option (List Int × Nat)} {c j : Nat} (h : j ≤ w.length) : (nextW p w here eld c).getD j 0 = cell p w here eld c j := by
  unfold nextW
  rw [List.getD_eq_getElem?_getD, List.getElem?_map, List.getElem?_range (by omega)]
  rfl
/-- u the number of a stream, v that of its last n letters, for j letters -/
def CR (p : Pr) (n j : Nat) (u v : Int) : Prop := 0 ≤ u ∧ u ≤ v ∧ v ≤ p.y * (j : Int) ∧ (v ≤ u ∨ p.x * ((n : Int) + 1 - (j : Int)) ≤ u)
def Rel (p : Pr) (n m : Nat) (a b : List Int) : Prop := ∀ j, j ≤ m → CR p n j (a.getD j 0) (b.getD j 0)
inductive EldRel (p : Pr) (m : Nat) : Nat → Option (List Int × Nat) → Option (List Int × Nat) → Prop
  | fresh {ma : Option (List Int × Nat)} : (∀ e d, ma = some (e, d) → ∀ j, j ≤ m → 0 ≤ e.getD j 0) → EldRel p m 0 ma none
  | none {n : Nat} : EldRel p m n none none
  | both {n d : Nat} {e f : List Int} : Rel p n m e f → EldRel p m (n + 1) (some (e, d)) (some (f, d))
/-- what a letter that is read costs -/
def mis (p : Pr) (w : List Nat) (j c : Nat) : Int := if w.getD j 0 = c then 0 else p.wr
theorem cell_succ {p : Pr} {w : List Nat} {here : List Int} {eld : Option (List Int × Nat)} {c j : Nat} : cell p w here eld c (j + 1) = minL ([here.getD (j + 1) 0 + p.x, cell p w here eld c j + p.y, here.getD j 0 + mis p w j c] ++ swaps p w eld c j) := rfl
theorem cell_le {p : Pr} {w : List Nat} {here : List Int} {eld : Option (List Int × Nat)} {c j : Nat} {y : Int} (h : y ∈ [here.getD (j + 1) 0 + p.x, cell p w here eld c j + p.y, here.getD j 0 + mis p w j c] ++ swaps p w eld c j) : cell p w here eld c (j + 1) ≤ y := by
  rw [cell_succ]
  exact minL_le h
theorem cell_or {p : Pr} {w : List Nat} {here : List Int} {eld : Option (List Int × Nat)} {c j : Nat} : cell p w here eld c (j + 1) = here.getD (j + 1) 0 + p.x ∨ cell p w here eld c (j + 1) = cell p w here eld c j + p.y ∨ cell p w here eld c (j + 1) = here.getD j 0 + mis p w j c ∨ cell p w here eld c (j + 1) ∈ swaps p w eld c j := by
  have h := minL_mem (l := [here.getD (j + 1) 0 + p.x, cell p w here eld c j + p.y, here.getD j 0 + mis p w j c] ++ swaps p w eld c j) (by intro z; cases z)
  rw [← cell_succ] at h
  rcases List.mem_append.mp h with h | h
  · rcases List.mem_cons.mp h with h | h
    · exact .inl h
    · rcases List.mem_cons.mp h with h | h
      · exact .inr (.inl h)
      · exact .inr (.inr (.inl (List.mem_singleton.mp h)))
  · exact .inr (.inr (.inr h))
theorem swaps_mem {p : Pr} {w : List Nat} {eld : Option (List Int × Nat)} {c j : Nat} {v : Int} (h : v ∈ swaps p w eld c j) : ∃ e d s, eld = some (e, d) ∧ p.sw = some s ∧ 1 ≤ j ∧ (d ≠ c ∧ w.getD (j - 1) 0 = c ∧ w.getD j 0 = d) ∧ v = e.getD (j - 1) 0 + s := by
  unfold swaps at h
  split at h
  · rename_i e d s hs
    split at h
    · rename_i q
      exact ⟨e, d, s, rfl, hs, q.1, q.2, List.mem_singleton.mp h⟩
    · cases h
  · cases h
theorem swaps_of {p : Pr} {w : List Nat} {c j d : Nat} {e : List Int} {s : Int} (hs : p.sw = some s) (h1 : 1 ≤ j) (h2 : d ≠ c ∧ w.getD (j - 1) 0 = c ∧ w.getD j 0 = d) : e.getD (j - 1) 0 + s ∈ swaps p w (some (e, d)) c j := by
  unfold swaps
  rw [hs]
  show _ ∈ if 1 ≤ j ∧ d ≠ c ∧ w.getD (j - 1) 0 = c ∧ w.getD j 0 = d then [e.getD (j - 1) 0 + s] else []
  rw [if_pos ⟨h1, h2⟩]
  exact List.mem_singleton.mpr rfl
theorem cell_rel {p : Pr} (ok : PrOk p) {w : List Nat} {n : Nat} {a b : List Int} {ma mb : Option (List Int × Nat)} {c : Nat} (h : Rel p n w.length a b) (hm : EldRel p w.length n ma mb) :
    ∀ j, j ≤ w.length → CR p (n + 1) j (cell p w a ma c j) (cell p w b mb c j)
  | 0, hj => by
    obtain ⟨h1, h2, h3, h4⟩ := h 0 (Nat.zero_le _)
    have e1 : cell p w a ma c 0 = a.getD 0 0 := rfl
    have e2 : cell p w b mb c 0 = b.getD 0 0 := rfl
    rw [e1, e2]
    have e3 : p.y * ((0 : Nat) : Int) = 0 := by simp
    rw [e3] at h3
    exact ⟨h1, h2, by rw [e3]; exact h3, .inl (by omega)⟩
  | j + 1, hj => by
    obtain ⟨i1, i2, i3, i4⟩ := cell_rel (c := c) ok h hm j (by omega)
    obtain ⟨r1, r2, r3, r4⟩ := h (j + 1) hj
    obtain ⟨s1, s2, s3, s4⟩ := h j (by omega)
    have ox := ok.x.1
    have oy := ok.y.1
    have ow := ok.wr.1
    have hc0 : (0 : Int) ≤ mis p w j c := by unfold mis; split <;> omega
    -- the places of x
    have x1 : p.x * (((n + 1 : Nat) : Int) + 1 - ((j + 1 : Nat) : Int)) = p.x * ((n : Int) + 1 - (j : Int)) := by congr 1; omega
    have x2 : p.x * ((n : Int) + 1 - ((j + 1 : Nat) : Int)) + p.x = p.x * ((n : Int) + 1 - (j : Int)) := by
      rw [show ((n : Int) + 1 - (j : Int)) = ((n : Int) + 1 - ((j + 1 : Nat) : Int)) + 1 by omega, Int.mul_add, Int.mul_one]
    have x3 : p.x * (((n + 1 : Nat) : Int) + 1 - (j : Int)) = p.x * ((n : Int) + 1 - (j : Int)) + p.x := by
      rw [show (((n + 1 : Nat) : Int) + 1 - (j : Int)) = ((n : Int) + 1 - (j : Int)) + 1 by omega, Int.mul_add, Int.mul_one]
    have y1 : p.y * ((j + 1 : Nat) : Int) = p.y * (j : Int) + p.y := by
      rw [show ((j + 1 : Nat) : Int) = (j : Int) + 1 by omega, Int.mul_add, Int.mul_one]
    -- what the choices of b give
    have bx : cell p w b mb c (j + 1) ≤ b.getD (j + 1) 0 + p.x := cell_le (by simp)
    have by_ : cell p w b mb c (j + 1) ≤ cell p w b mb c j + p.y := cell_le (by simp)
    have bw : cell p w b mb c (j + 1) ≤ b.getD j 0 + mis p w j c := cell_le (by simp)
    have ax : cell p w a ma c (j + 1) ≤ a.getD (j + 1) 0 + p.x := cell_le (by simp)
    have ay : cell p w a ma c (j + 1) ≤ cell p w a ma c j + p.y := cell_le (by simp)
    have aw : cell p w a ma c (j + 1) ≤ a.getD j 0 + mis p w j c := cell_le (by simp)
    have up : cell p w a ma c (j + 1) ≤ cell p w b mb c (j + 1) := by
      rcases cell_or (p := p) (w := w) (here := b) (eld := mb) (c := c) (j := j) with e | e | e | e
      · omega
      · omega
      · omega
      · obtain ⟨e', d, s, h1, h2, h3, h4, h5⟩ := swaps_mem e
        subst h1
        cases hm with
        | both hr =>
          rename_i k f
          have h6 := cell_le (p := p) (w := w) (here := a) (eld := some (f, d)) (c := c) (j := j) (List.mem_append_right _ (swaps_of h2 h3 h4))
          obtain ⟨q1, q2, q3, q4⟩ := hr (j - 1) (by omega)
          omega
    refine ⟨?_, up, by omega, ?_⟩
    · rcases cell_or (p := p) (w := w) (here := a) (eld := ma) (c := c) (j := j) with e | e | e | e
      · omega
      · omega
      · omega
      · obtain ⟨e', d, s, h1, h2, h3, h4, h5⟩ := swaps_mem e
        have := (ok.sw s h2).1
        subst h1
        cases hm with
        | both hr =>
          obtain ⟨q1, q2, q3, q4⟩ := hr (j - 1) (by omega)
          omega
        | fresh hf =>
          have := hf _ _ rfl (j - 1) (by omega)
          omega
    · rw [x1]
      rcases cell_or (p := p) (w := w) (here := a) (eld := ma) (c := c) (j := j) with e | e | e | e
      · rcases r4 with z | z
        · exact .inl (by omega)
        · exact .inr (by omega)
      · rcases i4 with z | z
        · exact .inl (by omega)
        · exact .inr (by omega)
      · rcases s4 with z | z
        · exact .inl (by omega)
        · exact .inr (by omega)
      · obtain ⟨e', d, s, h1, h2, h3, h4, h5⟩ := swaps_mem e
        have hs := (ok.sw s h2).1
        subst h1
        cases hm with
        | both hr =>
          rename_i k f
          have h6 := cell_le (p := p) (w := w) (here := b) (eld := some (f, d)) (c := c) (j := j) (List.mem_append_right _ (swaps_of h2 h3 h4))
          obtain ⟨q1, q2, q3, q4⟩ := hr (j - 1) (by omega)
          rcases q4 with z | z
          · exact .inl (by omega)
          · refine .inr ?_
            rw [show ((k : Int) + 1 - ((j - 1 : Nat) : Int)) = (((k + 1 : Nat) : Int) + 1 - (j : Int)) by omega] at z
            omega
        | fresh hf =>
          have h0 := hf _ _ rfl (j - 1) (by omega)
          refine .inr ?_
          have : p.x * (((0 : Nat) : Int) + 1 - (j : Int)) ≤ p.x * 0 := Int.mul_le_mul_of_nonneg_left (by omega) (by omega)
          rw [Int.mul_zero] at this
          omega
/-- the same of states -/
structure SRel (p : Pr) (es : List Ent) (n : Nat) (s t : Sta) : Prop where
  row : ∀ i, i < es.length → Rel p n (es.getD i ([], 0)).1.length (s.row.getD i []) (t.row.getD i [])
  mem : (n = 0 ∧ t.mem = none ∧ ∀ h d, s.mem = some (h, d) → ∀ i, i < es.length → ∀ j, j ≤ (es.getD i ([], 0)).1.length → 0 ≤ (h.getD i []).getD j 0) ∨ (s.mem = none ∧ t.mem = none) ∨
    ∃ k h f d, n = k + 1 ∧ s.mem = some (h, d) ∧ t.mem = some (f, d) ∧ ∀ i, i < es.length → Rel p k (es.getD i ([], 0)).1.length (h.getD i []) (f.getD i [])
theorem SRel.step {p : Pr} {es : List Ent} (ok : PrOk p) {n : Nat} {s t : Sta} (h : SRel p es n s t) (c : Nat) : SRel p es (n + 1) (stepM p es s c) (stepM p es t c) where
  row := fun i hi j hj => by
    have e : ∀ u : Sta, (stepM p es u c).row.getD i [] = nextW p (es.getD i ([], 0)).1 (u.row.getD i []) (u.mem.map fun m => (m.1.getD i [], m.2)) c := fun u => by
      unfold stepM
      rw [List.getD_eq_getElem?_getD, List.getElem?_map, List.getElem?_range hi]
      rfl
    rw [e, e, nextW_get hj, nextW_get hj]
    refine cell_rel ok (h.row i hi) ?_ j hj
    rcases h.mem with ⟨rfl, h2, h3⟩ | ⟨h1, h2⟩ | ⟨k, f, g, d, rfl, h1, h2, h3⟩
    · rw [h2]
      refine .fresh fun e d he j hj => ?_
      cases hs : s.mem with
      | none => rw [hs] at he; cases he
      | some q =>
        rw [hs] at he
        cases he
        exact h3 q.1 q.2 hs i hi j hj
    · rw [h1, h2]
      exact .none
    · rw [h1, h2]
      exact .both (h3 i hi)
  mem := by
    by_cases q : p.sw.isSome = true ∧ c ∈ abc es
    · refine .inr (.inr ⟨n, s.row, t.row, c, rfl, if_pos q, if_pos q, h.row⟩)
    · exact .inr (.inl ⟨if_neg q, if_neg q⟩)
theorem SRel.run {p : Pr} {es : List Ent} (ok : PrOk p) : ∀ {u : List Nat} {n : Nat} {s t : Sta}, SRel p es n s t → SRel p es (n + u.length) (runM p es s u) (runM p es t u)
  | [], n, s, t, h => h
  | c :: u, n, s, t, h => by
    have := SRel.run ok (u := u) (h.step ok c)
    rw [show n + (c :: u).length = n + 1 + u.length by rw [List.length_cons]; omega]
    exact this
theorem start_get {p : Pr} {es : List Ent} {i j : Nat} (hi : i < es.length) (hj : j ≤ (es.getD i ([], 0)).1.length) : ((startM p es).row.getD i []).getD j 0 = p.y * (j : Int) := by
  have e : (startM p es).row.getD i [] = (List.range ((es.getD i ([], 0)).1.length + 1)).map fun (j : Nat) => p.y * (j : Int) := by
    unfold startM
    rw [List.getD_eq_getElem?_getD, List.getElem?_map, List.getElem?_eq_getElem hi, List.getD_eq_getElem?_getD, List.getElem?_eq_getElem hi]
    rfl
  rw [e, List.getD_eq_getElem?_getD, List.getElem?_map, List.getElem?_range (by omega)]
  rfl
/-- a state that stands for any stream, beside that of the empty one -/
theorem SRel.zero {p : Pr} {es : List Ent} (ok : PrOk p) {s : Sta} {n : Nat} {t : Sta} (h : SRel p es n s t) : SRel p es 0 s (startM p es) where
  row := fun i hi j hj => by
    obtain ⟨h1, h2, h3, h4⟩ := h.row i hi j hj
    have oy := ok.y.1
    have ox := ok.x.1
    rw [start_get hi hj]
    refine ⟨h1, by omega, Int.le_refl _, ?_⟩
    cases j with
    | zero => exact .inl (by simp; exact h1)
    | succ j =>
      refine .inr ?_
      have : p.x * (((0 : Nat) : Int) + 1 - ((j + 1 : Nat) : Int)) ≤ p.x * 0 := Int.mul_le_mul_of_nonneg_left (by omega) (by omega)
      rw [Int.mul_zero] at this
      omega
  mem := .inl ⟨rfl, rfl, fun f d hs i hi j hj => by
    rcases h.mem with ⟨_, _, h3⟩ | ⟨h1, _⟩ | ⟨k, f', g, d', rfl, h1, h2, h3⟩
    · exact h3 f d hs i hi j hj
    · rw [h1] at hs; cases hs
    · rw [h1] at hs
      cases hs
      exact (h3 i hi j hj).1⟩
theorem srel_start {p : Pr} {es : List Ent} (ok : PrOk p) : SRel p es 0 (startM p es) (startM p es) where
  row := fun i hi j hj => by
    have oy := ok.y.1
    rw [start_get hi hj]
    refine ⟨Int.mul_nonneg (by omega) (by omega), Int.le_refl _, Int.le_refl _, .inl (Int.le_refl _)⟩
  mem := .inr (.inl ⟨rfl, rfl⟩)
/-! ### how far it reaches -/
def reach1 (p : Pr) (e : Ent) : Nat := e.1.length + (p.y * (e.1.length : Int) / p.x).toNat
def maxN (l : List Nat) : Nat := l.foldl max 0
theorem foldl_max : ∀ (l : List Nat) (a : Nat), a ≤ l.foldl max a ∧ (∀ x ∈ l, x ≤ l.foldl max a) ∧ (l.foldl max a = a ∨ l.foldl max a ∈ l)
  | [], a => ⟨Nat.le_refl _, fun x h => (by cases h), .inl rfl⟩
  | y :: l, a => by
    obtain ⟨h1, h2, h3⟩ := foldl_max l (max a y)
    refine ⟨Nat.le_trans (Nat.le_max_left ..) h1, fun x hx => ?_, ?_⟩
    · rcases List.mem_cons.mp hx with rfl | hx
      · exact Nat.le_trans (Nat.le_max_right ..) h1
      · exact h2 x hx
    · rcases h3 with h | h
      · show l.foldl max (max a y) = a ∨ _
        rw [h]
        rcases Nat.le_total a y with z | z
        · exact .inr (by show l.foldl max (max a y) ∈ _; rw [h, Nat.max_eq_right z]; exact List.mem_cons_self ..)
        · exact .inl (Nat.max_eq_left z)
      · exact .inr (List.mem_cons_of_mem _ h)
def reach (p : Pr) (es : List Ent) : Nat := maxN (es.map (reach1 p))
theorem reach_le {p : Pr} {es : List Ent} {e : Ent} (h : e ∈ es) : reach1 p e ≤ reach p es := (foldl_max _ 0).2.1 _ (List.mem_map.mpr ⟨e, h, rfl⟩)
theorem reach_lt {p : Pr} (ok : PrOk p) {e : Ent} {n j : Nat} (hn : reach1 p e ≤ n) (hj : j ≤ e.1.length) : p.y * (j : Int) < p.x * ((n : Int) + 1 - (j : Int)) := by
  have ox := ok.x.1
  have oy := ok.y.1
  unfold reach1 at hn
  have d0 : 0 ≤ p.y * (e.1.length : Int) := Int.mul_nonneg (by omega) (by omega)
  have d1 : p.y * (j : Int) ≤ p.y * (e.1.length : Int) := Int.mul_le_mul_of_nonneg_left (by omega) (by omega)
  have d2 := Int.mul_ediv_add_emod (p.y * (e.1.length : Int)) p.x
  have d3 := Int.emod_lt_of_pos (p.y * (e.1.length : Int)) (show 0 < p.x by omega)
  have d4 := Int.ediv_nonneg d0 (show 0 ≤ p.x by omega)
  generalize p.y * (e.1.length : Int) = A at *
  generalize hq : A / p.x = q at *
  have d5 : p.x * (q + 1) ≤ p.x * ((n : Int) + 1 - (j : Int)) := Int.mul_le_mul_of_nonneg_left (by omega) (by omega)
  rw [Int.mul_add, Int.mul_one] at d5
  omega
theorem rows_eq {p : Pr} {es : List Ent} (ok : PrOk p) {n : Nat} (hn : reach p es ≤ n) {a b : List (List Int)} (ha : RowOk es a) (hb : RowOk es b) (h : ∀ i, i < es.length → Rel p n (es.getD i ([], 0)).1.length (a.getD i []) (b.getD i [])) : a = b := by
  refine List.ext_getElem? fun i => ?_
  rcases Nat.lt_or_ge i es.length with z | z
  · have he := List.getElem?_eq_getElem z
    obtain ⟨na, ea, la⟩ := ha.each i _ he
    obtain ⟨nb, eb, lb⟩ := hb.each i _ he
    have hi := h i z
    have e1 : es.getD i ([], 0) = es[i] := by rw [List.getD_eq_getElem?_getD, he]; rfl
    rw [e1, List.getD_eq_getElem?_getD, List.getD_eq_getElem?_getD, ea, eb] at hi
    change ∀ j, j ≤ es[i].1.length → CR p n j (na.getD j 0) (nb.getD j 0) at hi
    rw [ea, eb]
    congr 1
    refine List.ext_getElem? fun j => ?_
    rcases Nat.lt_or_ge j (es[i].1.length + 1) with y | y
    · obtain ⟨h1, h2, h3, h4⟩ := hi j (by omega)
      have g1 : (na.getD j 0) = na[j]'(by omega) := by rw [List.getD_eq_getElem?_getD, List.getElem?_eq_getElem (by omega)]; rfl
      have g2 : (nb.getD j 0) = nb[j]'(by omega) := by rw [List.getD_eq_getElem?_getD, List.getElem?_eq_getElem (by omega)]; rfl
      have lt := reach_lt ok (Nat.le_trans (reach_le (List.getElem_mem z)) hn) (show j ≤ es[i].1.length by omega)
      rw [List.getElem?_eq_getElem (by omega), List.getElem?_eq_getElem (by omega)]
      congr 1
      rw [← g1, ← g2]
      omega
    · rw [List.getElem?_eq_none (by omega), List.getElem?_eq_none (by omega)]
  · rw [List.getElem?_eq_none (by rw [ha.len]; exact z), List.getElem?_eq_none (by rw [hb.len]; exact z)]
theorem memory {p : Pr} {es : List Ent} (ok : PrOk p) {t u : List Nat} (h : reach p es + 1 ≤ u.length) : runM p es (startM p es) (t ++ u) = runM p es (startM p es) u := by
  have s1 : SRel p es 0 (runM p es (startM p es) t) (startM p es) := ((srel_start ok).run ok (u := t)).zero ok
  have s2 := s1.run ok (u := u)
  rw [← runM_app, Nat.zero_add] at s2
  have oa := runM_ok (p := p) (es := es) (t := t ++ u) startM_ok
  have ob := runM_ok (p := p) (es := es) (t := u) startM_ok
  generalize runM p es (startM p es) (t ++ u) = a at s2 oa ⊢
  generalize runM p es (startM p es) u = b at s2 ob ⊢
  obtain ⟨ra, ma⟩ := a
  obtain ⟨rb, mb⟩ := b
  have e1 : ra = rb := rows_eq ok (by omega) oa.row ob.row s2.row
  have e2 : ma = mb := by
    rcases s2.mem with ⟨h1, _⟩ | ⟨h1, h2⟩ | ⟨k, f, g, d, h0, h1, h2, h3⟩
    · omega
    · exact h1.trans h2.symm
    · have h1' : ma = some (f, d) := h1
      have h2' : mb = some (g, d) := h2
      have e3 : f = g := rows_eq ok (by omega) (oa.mem f d h1).1 (ob.mem g d h2).1 h3
      rw [h1', h2', e3]
  rw [e1, e2]
end Mw


set_option Elab.async false
set_option linter.all false
set_option maxRecDepth 100000
set_option maxHeartbeats 4000000
namespace Mw
/-! ### how many states there are -/
def textsN (cs : List Nat) : Nat → List (List Nat)
  | 0 => [[]]
  | k + 1 => (textsN cs k).flatMap fun t => cs.map fun c => t ++ [c]
theorem mem_textsN {cs : List Nat} : ∀ {k : Nat} {t : List Nat}, t.length = k → (∀ c ∈ t, c ∈ cs) → t ∈ textsN cs k
  | 0, t, h, _ => by
    cases t with
    | nil => exact List.mem_singleton.mpr rfl
    | cons a l => simp at h
  | k + 1, t, h, hc => by
    have hne : t ≠ [] := fun z => by rw [z] at h; simp at h
    have e := List.dropLast_concat_getLast hne
    have hl : t.dropLast.length = k := by rw [List.length_dropLast]; omega
    refine List.mem_flatMap.mpr ⟨t.dropLast, mem_textsN hl fun c h2 => hc c ((List.dropLast_sublist t).subset h2), List.mem_map.mpr ⟨t.getLast hne, hc _ (List.getLast_mem hne), e⟩⟩
theorem textsN_mem {cs : List Nat} : ∀ {k : Nat} {t : List Nat}, t ∈ textsN cs k → t.length = k ∧ ∀ c ∈ t, c ∈ cs
  | 0, t, h => by
    rw [List.mem_singleton.mp h]
    exact ⟨rfl, fun c hc => by cases hc⟩
  | k + 1, t, h => by
    obtain ⟨u, hu, h2⟩ := List.mem_flatMap.mp h
    obtain ⟨c, hc, rfl⟩ := List.mem_map.mp h2
    obtain ⟨h3, h4⟩ := textsN_mem hu
    refine ⟨by rw [List.length_append, h3]; rfl, fun d hd => ?_⟩
    rcases List.mem_append.mp hd with y | y
    · exact h4 d y
    · rw [List.mem_singleton.mp y]; exact hc
theorem len_flatMap {α β : Type} {f : α → List β} {n : Nat} (h : ∀ a, (f a).length = n) : ∀ l : List α, (l.flatMap f).length = l.length * n
  | [] => by simp
  | a :: l => by
    rw [List.flatMap_cons, List.length_append, h, len_flatMap h l, List.length_cons, Nat.succ_mul]
    omega
theorem textsN_len (cs : List Nat) : ∀ k, (textsN cs k).length = cs.length ^ k
  | 0 => rfl
  | k + 1 => by
    unfold textsN
    rw [len_flatMap (n := cs.length) (fun t => List.length_map ..), textsN_len cs k, Nat.pow_succ]
def upTo (cs : List Nat) : Nat → List (List Nat)
  | 0 => textsN cs 0
  | k + 1 => upTo cs k ++ textsN cs (k + 1)
theorem mem_upTo {cs : List Nat} {t : List Nat} (hc : ∀ c ∈ t, c ∈ cs) : ∀ {n : Nat}, t.length ≤ n → t ∈ upTo cs n
  | 0, h => mem_textsN (by omega) hc
  | n + 1, h => by
    rcases Nat.lt_or_ge t.length (n + 1) with z | z
    · exact List.mem_append_left _ (mem_upTo hc (by omega))
    · exact List.mem_append_right _ (mem_textsN (by omega) hc)
theorem upTo_mem {cs : List Nat} {t : List Nat} : ∀ {n : Nat}, t ∈ upTo cs n → t.length ≤ n ∧ ∀ c ∈ t, c ∈ cs
  | 0, h => by
    obtain ⟨h1, h2⟩ := textsN_mem h
    exact ⟨by omega, h2⟩
  | n + 1, h => by
    rcases List.mem_append.mp h with z | z
    · obtain ⟨h1, h2⟩ := upTo_mem z
      exact ⟨by omega, h2⟩
    · obtain ⟨h1, h2⟩ := textsN_mem z
      exact ⟨by omega, h2⟩
theorem upTo_two {cs : List Nat} (h : 2 ≤ cs.length) : ∀ n, (upTo cs n).length ≤ 2 * cs.length ^ n
  | 0 => by
    show 1 ≤ 2 * cs.length ^ 0
    rw [Nat.pow_zero]
    omega
  | n + 1 => by
    have ih := upTo_two h n
    show (upTo cs n ++ textsN cs (n + 1)).length ≤ _
    rw [List.length_append, textsN_len]
    have : 2 * cs.length ^ n ≤ cs.length ^ (n + 1) := by
      rw [Nat.pow_succ, Nat.mul_comm]
      exact Nat.mul_le_mul_left _ h
    omega
theorem upTo_one {cs : List Nat} (h : cs.length ≤ 1) : ∀ n, (upTo cs n).length ≤ n + 1
  | 0 => Nat.le_refl _
  | n + 1 => by
    have ih := upTo_one h n
    show (upTo cs n ++ textsN cs (n + 1)).length ≤ _
    rw [List.length_append, textsN_len]
    have : cs.length ^ (n + 1) ≤ 1 ^ (n + 1) := Nat.pow_le_pow_left h _
    rw [Nat.one_pow] at this
    omega
/-- the states of all texts of one letter more than can matter -/
def nearM (p : Pr) (es : List Ent) : List Sta := (upTo (tried es) (reach p es + 1)).map (runM p es (startM p es))
theorem near_closed {p : Pr} {es : List Ent} (ok : PrOk p) : Closed p es (nearM p es) where
  start := List.mem_map.mpr ⟨[], mem_upTo (fun c hc => by cases hc) (Nat.zero_le _), rfl⟩
  step := fun s hs c hc => by
    obtain ⟨t, ht, rfl⟩ := List.mem_map.mp hs
    obtain ⟨h1, h2⟩ := upTo_mem ht
    have e : stepM p es (runM p es (startM p es) t) c = runM p es (startM p es) (t ++ [c]) := by rw [runM_app]; rfl
    rw [e]
    have hall : ∀ d ∈ t ++ [c], d ∈ tried es := fun d hd => (List.mem_append.mp hd).elim (h2 d) fun y => by rw [List.mem_singleton.mp y]; exact hc
    rcases Nat.lt_or_ge t.length (reach p es + 1) with z | z
    · exact List.mem_map.mpr ⟨t ++ [c], mem_upTo hall (by rw [List.length_append]; exact z), rfl⟩
    · cases t with
      | nil => simp at z
      | cons a l =>
        have e2 : runM p es (startM p es) ((a :: l) ++ [c]) = runM p es (startM p es) (l ++ [c]) := by
          have := memory (p := p) (es := es) ok (t := [a]) (u := l ++ [c]) (by rw [List.length_append]; simp at z h1 ⊢; omega)
          exact this
        rw [e2]
        exact List.mem_map.mpr ⟨l ++ [c], mem_upTo (fun d hd => hall d (List.mem_cons_of_mem _ hd)) (by simp at h1 ⊢; omega), rfl⟩
theorem reach_50 {p : Pr} {es : List Ent} (ok : PrOk p) (eo : EntsOk es) : reach p es ≤ 50 := by
  unfold reach maxN
  rcases (foldl_max (es.map (reach1 p)) 0).2.2 with h | h
  · rw [h]; omega
  · obtain ⟨e, he, h2⟩ := List.mem_map.mp h
    rw [← h2]
    unfold reach1
    have h5 := (eo.all e he).hi
    have oy := ok.y
    have ox := ok.x.1
    have d0 : p.y * (e.1.length : Int) ≤ 9 * 5 := by
      have a1 : p.y * (e.1.length : Int) ≤ 9 * (e.1.length : Int) := Int.mul_le_mul_of_nonneg_right oy.2 (by omega)
      omega
    have d1 : 0 ≤ p.y * (e.1.length : Int) := Int.mul_nonneg (by omega) (by omega)
    have d2 : p.y * (e.1.length : Int) / p.x ≤ p.y * (e.1.length : Int) := Int.ediv_le_self _ d1
    omega
theorem near_few {p : Pr} {es : List Ent} (ok : PrOk p) (eo : EntsOk es) (h : (tried es).length ^ (reach p es + 1) ≤ 300) : (nearM p es).length ≤ 2000 := by
  have h50 := reach_50 ok eo
  unfold nearM
  rw [List.length_map]
  rcases Nat.lt_or_ge (tried es).length 2 with z | z
  · have := upTo_one (cs := tried es) (by omega) (reach p es + 1)
    omega
  · have := upTo_two z (reach p es + 1)
    omega
end Mw


set_option Elab.async false
set_option linter.all false
set_option maxRecDepth 100000
set_option maxHeartbeats 4000000
namespace Mw
open PySem PySem.Spec PyProof.Rows L2
open C8 (Cal pe_c Mak pe_mk)
/-! ### a def by its body -/
section
variable {P : Program} {w : World} {K : PySem.W.Frag} {mg : Str → Option Value} {base : Heap}
theorem calD {x : Str} {params : Arguments} {body : List Stmt} {scope : Scope} {f : Addr} {N ps : List Str} {k : Nat} {sp : Sp}
    (F : ∃ fd, FunD K x x params body scope [] [] f fd) (hm : mg x = some (.ref f)) (S : FnScope N ps scope) (len : ∀ vs H Q E, sp vs H Q E → vs.length = ps.length)
    (hb : ∀ (kV doc pm : Value) (an : Option Addr) (cdv ct : Value) (us : List Value), us.length = ps.length → bindArgs (PySem.W.fnOf x x params body scope .none kV doc pm an cdv ct) ⟨us, []⟩ = pure (ps.zip us))
    (hbody : ∀ (cdv : Value) (A : Around) (outer : List Env) (s : Shared) (H : Hp) (vs : List V) (Q : VK) (E : XK), Room k (A.deeper (envOfC x scope s.heap.objs.size f cdv)) → sp vs H Q E →
      ∃ t, PSs (cxOf C8.CX0 P w K mg base N x scope f cdv A outer s H E) body t ∧ t { nx := fun _ H' => Q .non H', rt := Q } (start N vs) H) : Cal P w K mg base (k + 1) x sp [] := by
  obtain ⟨fd, F⟩ := F
  exact ⟨f, fd, ps, [], F.ok S len hbody, hm, F.kp, F.bindsN hb, .nil⟩
end
/-! ### heaps -/
def isImm : HO → Prop
  | .tup _ => True
  | .ins _ _ _ => True
  | _ => False
/-- tuples and instances stand -/
def Imm (H H' : Hp) : Prop := ∀ b o, H b = some o → isImm o → H' b = some o
theorem Imm.refl {H : Hp} : Imm H H := fun _ _ e _ => e
theorem Imm.trans {H H' H'' : Hp} (a : Imm H H') (b : Imm H' H'') : Imm H H'' := fun c o e i => b c o (a c o e i) i
theorem Imm.of_same {H H' : Hp} (s : Same H H') : Imm H H' := fun b o e _ => s b o e
theorem Imm.tup {H H' : Hp} (s : Imm H H') {a : Addr} {xs : List V} (e : H a = some (.tup xs)) : H' a = some (.tup xs) := s a _ e trivial
theorem Imm.ins {H H' : Hp} (s : Imm H H') {a C dx : Addr} {fs : List (Str × V)} (e : H a = some (.ins C dx fs)) : H' a = some (.ins C dx fs) := s a _ e trivial
theorem Imm.new {H : Hp} {p : Addr} {o : HO} (h : H p = none) : Imm H (upd H p o) := fun b x e _ => by rw [upd_ne (ne_of_none e h)]; exact e
theorem Imm.wr {H : Hp} {p : Addr} {o u : HO} (h : H p = some u) (n : ¬ isImm u) : Imm H (upd H p o) := fun b x e i => by
  have hb : b ≠ p := fun z => by subst z; rw [h] at e; cases e; exact n i
  rw [upd_ne hb]; exact e
theorem same_upd {H : Hp} {p : Addr} {o : HO} (h : H p = none) : Same H (upd H p o) := fun b x e => by
  rw [upd_ne (ne_of_none e h)]
  exact e
theorem Same.rfl' {H : Hp} : Same H H := fun _ _ e => e
/-- all but what stands at the addresses of A stands as before, and tuples and instances do -/
structure Kp (A : Addr → Prop) (H H' : Hp) : Prop where
  kp : ∀ b o, H b = some o → ¬ A b → H' b = some o
  im : Imm H H'
namespace Kp
variable {A : Addr → Prop} {H H' H'' : Hp}
theorem refl : Kp A H H := ⟨fun _ _ e _ => e, Imm.refl⟩
theorem trans (a : Kp A H H') (b : Kp A H' H'') : Kp A H H'' := ⟨fun c o e n => b.kp c o (a.kp c o e n) n, a.im.trans b.im⟩
theorem same (s : Same H H') : Kp A H H' := ⟨fun b o e _ => s b o e, Imm.of_same s⟩
theorem new {p : Addr} {o : HO} (h : H p = none) : Kp A H (upd H p o) := same (same_upd h)
theorem wr {p : Addr} {o u : HO} (a : A p) (h : H p = some u) (n : ¬ isImm u) : Kp A H (upd H p o) := ⟨fun b x e nb => by
  exact (upd_ne (fun z : b = p => nb (z ▸ a))).trans e, Imm.wr h n⟩
theorem toSame (k : Kp (fun _ => False) H H') : Same H H' := fun b o e => k.kp b o e id
/-- more may change -/
theorem more {B : Addr → Prop} (k : Kp A H H') (h : ∀ a, A a → B a) : Kp B H H' := ⟨fun b o e n => k.kp b o e fun z => n (h b z), k.im⟩
/-- what is new at the start may change on the way -/
theorem own {A2 : Addr → Prop} {H0 : Hp} (k0 : Kp A H0 H) (k : Kp A2 H H') (h : ∀ a, A2 a → A a ∨ H0 a = none) : Kp A H0 H' :=
  ⟨fun b o e n => k.kp b o (k0.kp b o e n) fun z => (h b z).elim n (fun q => absurd (q.symm.trans e) (fun y => by cases y)), k0.im.trans k.im⟩
end Kp
theorem Same.wr {H H' : Hp} {p : Addr} {o : HO} (s : Same H H') (h : H p = none) : Same H (upd H' p o) := fun b x e => by
  rw [upd_ne (ne_of_none e h)]; exact s b x e
/-! ### a comprehension, by a relation of what is made so far -/
def PvD (A : Addr → Prop) (H1 : Hp) (D : Addr) (Tv : Nat → List V → Hp → Prop) (i : Nat) (H : Hp) : Prop := Kp A H1 H ∧ ∃ ys, ys.length ≤ i ∧ H D = some (.lst ys) ∧ Tv i ys H
theorem lc_gen {J : It} {n : Nat} {G : Hp → Prop} {Y : Nat → Hp → V → Hp → Prop} (wk : Walk J n G Y) (A : Addr → Prop) {g : TG} {tt : TT} {te : TE} {vs : List Nat} {σ : L2.St} {H1 : Hp} {D : Addr} {Qd : Hp → Prop} (Tv : Nat → List V → Hp → Prop)
    (hD : H1 D = none) (hA : ¬ A D) (hn : n ≤ 1000000) (hG : ∀ i ys H, i ≤ n → Kp A H1 H → Tv i ys H → G H) (h0 : Tv 0 [] (upd H1 D (.lst [])))
    (hs : ∀ i x H H' ys, i < n → Kp A H1 H → Tv i ys H → Y i H x H' → H D = some (.lst ys) →
      (∀ H4 y, Kp A H H4 → Tv (i + 1) (ys ++ [y]) (upd H4 D (.lst (ys ++ [y]))) → ∃ acc, H4 D = some (.lst acc) ∧ acc.length < sizeLine ∧ PvD A H1 D Tv (i + 1) (upd H4 D (.lst (acc ++ [y])))) →
      (∀ H3, Kp A H H3 → Tv (i + 1) ys H3 → PvD A H1 D Tv (i + 1) H3) →
      g x (wipe σ vs) H' fun σ2 H2 => wipe σ2 vs = wipe σ vs ∧ tt σ2 H2 fun b H3 =>
      if b = true then te σ2 H3 fun y H4 => ∃ acc, H4 D = some (.lst acc) ∧ acc.length < sizeLine ∧ PvD A H1 D Tv (i + 1) (upd H4 D (.lst (acc ++ [y]))) else PvD A H1 D Tv (i + 1) H3)
    (hd : ∀ H ys, Kp A H1 H → H D = some (.lst ys) → Tv n ys H → Qd H) :
    ∃ W : Nat → Nat → Hp → Prop, (∃ m, W 0 m (upd H1 D (.lst []))) ∧ ∀ i m H, W i m H →
      (J.stop i H ∧ Qd H) ∨ (J.go i H ∧ ∃ Nx : Hp → Prop, (∀ H', Nx H' → ∃ m', m' < m ∧ W (i + 1) m' H') ∧ ∀ x H', J.yld i H x H' → g x (wipe σ vs) H' fun σ2 H2 => wipe σ2 vs = wipe σ vs ∧ tt σ2 H2 fun b H3 =>
        if b = true then te σ2 H3 fun y H4 => ∃ acc, H4 D = some (.lst acc) ∧ acc.length < sizeLine ∧ Nx (upd H4 D (.lst (acc ++ [y]))) else Nx H3) := by
  refine lc_it wk (PvD A H1 D Tv) ⟨Kp.new hD, [], Nat.le_refl _, upd_same, h0⟩ (fun i H hi ⟨k, ys, _, _, t⟩ => hG i ys H hi k t) ?_ fun H ⟨k, ys, _, e, t⟩ => hd H ys k e t
  rintro i x H H' hi ⟨k, ys, hl, e, t⟩ hy
  refine hs i x H H' ys hi k t hy e (fun H4 y k4 t4 => ?_) fun H3 k3 t3 => ?_
  · have e4 : H4 D = some (.lst ys) := k4.kp D _ e hA
    have hs : sizeLine = 16777216 := sizeLine_eq
    exact ⟨ys, e4, by omega, (k.trans k4).own (Kp.wr (A := fun a => a = D) rfl e4 (fun z => z)) (fun a z => .inr (by rw [z]; exact hD)), ys ++ [y], by rw [List.length_append, List.length_singleton]; omega, upd_same, t4⟩
  · have e4 : H3 D = some (.lst ys) := k3.kp D _ e hA
    exact ⟨k.trans k3, ys, by omega, e4, t3⟩
/-- the same without a test -/
theorem lc_map {J : It} {n : Nat} {G : Hp → Prop} {Y : Nat → Hp → V → Hp → Prop} (wk : Walk J n G Y) (A : Addr → Prop) {g : TG} {te : TE} {vs : List Nat} {σ : L2.St} {H1 : Hp} {D : Addr} {Qd : Hp → Prop} (Tv : Nat → List V → Hp → Prop)
    (hD : H1 D = none) (hA : ¬ A D) (hn : n ≤ 1000000) (hG : ∀ i ys H, i ≤ n → Kp A H1 H → Tv i ys H → G H) (h0 : Tv 0 [] (upd H1 D (.lst [])))
    (hs : ∀ i x H H' ys, i < n → Kp A H1 H → Tv i ys H → Y i H x H' → H D = some (.lst ys) →
      (∀ H4 y, Kp A H H4 → Tv (i + 1) (ys ++ [y]) (upd H4 D (.lst (ys ++ [y]))) → ∃ acc, H4 D = some (.lst acc) ∧ acc.length < sizeLine ∧ PvD A H1 D Tv (i + 1) (upd H4 D (.lst (acc ++ [y])))) →
      g x (wipe σ vs) H' fun σ2 H2 => wipe σ2 vs = wipe σ vs ∧ te σ2 H2 fun y H4 => ∃ acc, H4 D = some (.lst acc) ∧ acc.length < sizeLine ∧ PvD A H1 D Tv (i + 1) (upd H4 D (.lst (acc ++ [y]))))
    (hd : ∀ H ys, Kp A H1 H → H D = some (.lst ys) → Tv n ys H → Qd H) :
    ∃ W : Nat → Nat → Hp → Prop, (∃ m, W 0 m (upd H1 D (.lst []))) ∧ ∀ i m H, W i m H →
      (J.stop i H ∧ Qd H) ∨ (J.go i H ∧ ∃ Nx : Hp → Prop, (∀ H', Nx H' → ∃ m', m' < m ∧ W (i + 1) m' H') ∧ ∀ x H', J.yld i H x H' → g x (wipe σ vs) H' fun σ2 H2 => wipe σ2 vs = wipe σ vs ∧ tYes σ2 H2 fun b H3 =>
        if b = true then te σ2 H3 fun y H4 => ∃ acc, H4 D = some (.lst acc) ∧ acc.length < sizeLine ∧ Nx (upd H4 D (.lst (acc ++ [y]))) else Nx H3) :=
  lc_gen wk A Tv hD hA hn hG h0 (fun i x H H' ys hi k t y e push _ => hs i x H H' ys hi k t y e push) hd
abbrev noA : Addr → Prop := fun _ => False
end Mw


set_option Elab.async false
set_option linter.all false
set_option maxRecDepth 100000
set_option maxHeartbeats 4000000
namespace Mw
open PySem PySem.Spec PyProof.Rows L2
open C8 (Cal pe_c Mak pe_mk)
/-! ### properties -/
theorem iteD {c : Prop} [Decidable c] (h : c) {A B : Prop} (a : A) : if decide c = true then A else B := by rw [decide_eq_true h]; exact iteT a
theorem iteDn {c : Prop} [Decidable c] (h : ¬ c) {A B : Prop} (b : B) : if decide c = true then A else B := by rw [decide_eq_false h]; exact iteF b
theorem iteND {c : Prop} [Decidable c] (h : c) {A B : Prop} (b : B) : if (!decide c) = true then A else B := by rw [decide_eq_true h]; exact iteF b
theorem iteNDn {c : Prop} [Decidable c] (h : ¬ c) {A B : Prop} (a : A) : if (!decide c) = true then A else B := by rw [decide_eq_false h]; exact iteT a
theorem bT {c : Prop} [Decidable c] {F : VK} {H : Hp} (h : c) (q : F (.bl true) H) : F (.bl (decide c)) H := by rw [decide_eq_true h]; exact q
theorem bF {c : Prop} [Decidable c] {F : VK} {H : Hp} (h : ¬ c) (q : F (.bl false) H) : F (.bl (decide c)) H := by rw [decide_eq_false h]; exact q
theorem bNT {c : Prop} [Decidable c] {F : VK} {H : Hp} (h : ¬ c) (q : F (.bl true) H) : F (.bl (!decide c)) H := by rw [decide_eq_false h]; exact q
/-- a value, with a word between it and what follows -/
def tCutE (t : TE) : TE := fun σ H Q => ∃ Mid : V → Hp → Prop, t σ H Mid ∧ ∀ v H', Mid v H' → Q v H'
theorem pe_cutE {X : Cx} {e : Expr} {t : TE} (h : PE X e t) : PE X e (tCutE t) := ⟨fun pins s σ H Q I ⟨Mid, hm, hu⟩ =>
  thn (h.run pins s σ H Mid I hm) fun u s1 ⟨v, H1, I1, r, q⟩ => ⟨v, H1, I1, r, hu v H1 q⟩⟩
theorem pe_never {X : Cx} {e : Expr} : PE X e (fun _ _ _ => False) := ⟨fun _ _ _ _ _ _ h => h.elim⟩
theorem gp {C a dx : Addr} {fs : List (Str × V)} {f : Str} {v : V} {H : Hp} {Q : VK} {E : XK} (ha : H a = some (.ins C dx fs)) (l : fs.lookup f = some v) (q : Q v H) : ∃ a' dx fs, V.ref a = .ref a' ∧ H a' = some (.ins C dx fs) ∧ getSp C f (V.ref a' :: []) H Q E :=
  ⟨a, dx, fs, rfl, ha, a, dx, fs, v, rfl, ha, l, q⟩
theorem scSlipsExtra : FnScope ["self"] ["self"] (defScope sSlipsExtra) := ⟨rfl, rfl, rfl, by decide +kernel, rfl, by decide +kernel, by decide +kernel⟩
theorem fnSlipsExtra {P : Program} {w : World} {K : PySem.W.Frag} {mg : Str → Option Value} {base : Heap} (T : Txt K mg) : ∃ fd, FnOk P w K mg base C8.CX0 1 (getterOf K "Slips" "extra") fd ["self"] (getSp (He.ga K "Slips") "z_extra") ∧ Binds K fd ["self"] [] := by
  obtain ⟨fd, F⟩ := dSlipsExtra_fn T
  refine ⟨fd, F.ok scSlipsExtra (fun vs H Q E h => ?_) (fun cdv A outer s H vs Q E hr h => ?_), F.bindsN fun _ _ _ _ _ _ us hl => match us, hl with | [_], _ => rfl⟩
  · obtain ⟨a, dx, fs, v, rfl, _⟩ := h
    rfl
  · obtain ⟨a, dx, fs, v, rfl, ea, l, q⟩ := h
    exact ⟨_, pss_one (ps_ret (pe_fld (pv 0) rfl)), ⟨.ref a, rfl, a, _, dx, fs, v, rfl, ea, clsSlips T, no_z_extra T, l, q⟩⟩
theorem pe_pExtra {X : Cx} {e : Expr} {ta : TE} {pos : Pos} {j : Nat} (T : Txt X.K X.mg) (hr : Room j X.A) (hk : 2 ≤ j) (he : PE X e ta) (hab : attributeBase e "extra" X.env (eval e X.env) = eval e X.env := by rfl) : PE X (.Attribute e "extra" pos) (tProp (He.ga X.K "Slips") (getSp (He.ga X.K "Slips") "z_extra") [] E0 ta) := by
  obtain ⟨fd, F, b⟩ := fnSlipsExtra (P := X.prog) (w := X.w) (base := X.base) T
  exact pe_prop he (clsSlips T) (propSlipsExtra T) F (hr.mono hk) b .nil pass0 hab
theorem scSlipsMissing : FnScope ["self"] ["self"] (defScope sSlipsMissing) := ⟨rfl, rfl, rfl, by decide +kernel, rfl, by decide +kernel, by decide +kernel⟩
theorem fnSlipsMissing {P : Program} {w : World} {K : PySem.W.Frag} {mg : Str → Option Value} {base : Heap} (T : Txt K mg) : ∃ fd, FnOk P w K mg base C8.CX0 1 (getterOf K "Slips" "missing") fd ["self"] (getSp (He.ga K "Slips") "z_missing") ∧ Binds K fd ["self"] [] := by
  obtain ⟨fd, F⟩ := dSlipsMissing_fn T
  refine ⟨fd, F.ok scSlipsMissing (fun vs H Q E h => ?_) (fun cdv A outer s H vs Q E hr h => ?_), F.bindsN fun _ _ _ _ _ _ us hl => match us, hl with | [_], _ => rfl⟩
  · obtain ⟨a, dx, fs, v, rfl, _⟩ := h
    rfl
  · obtain ⟨a, dx, fs, v, rfl, ea, l, q⟩ := h
    exact ⟨_, pss_one (ps_ret (pe_fld (pv 0) rfl)), ⟨.ref a, rfl, a, _, dx, fs, v, rfl, ea, clsSlips T, no_z_missing T, l, q⟩⟩
theorem pe_pMissing {X : Cx} {e : Expr} {ta : TE} {pos : Pos} {j : Nat} (T : Txt X.K X.mg) (hr : Room j X.A) (hk : 2 ≤ j) (he : PE X e ta) (hab : attributeBase e "missing" X.env (eval e X.env) = eval e X.env := by rfl) : PE X (.Attribute e "missing" pos) (tProp (He.ga X.K "Slips") (getSp (He.ga X.K "Slips") "z_missing") [] E0 ta) := by
  obtain ⟨fd, F, b⟩ := fnSlipsMissing (P := X.prog) (w := X.w) (base := X.base) T
  exact pe_prop he (clsSlips T) (propSlipsMissing T) F (hr.mono hk) b .nil pass0 hab
theorem scSlipsWrong : FnScope ["self"] ["self"] (defScope sSlipsWrong) := ⟨rfl, rfl, rfl, by decide +kernel, rfl, by decide +kernel, by decide +kernel⟩
theorem fnSlipsWrong {P : Program} {w : World} {K : PySem.W.Frag} {mg : Str → Option Value} {base : Heap} (T : Txt K mg) : ∃ fd, FnOk P w K mg base C8.CX0 1 (getterOf K "Slips" "wrong") fd ["self"] (getSp (He.ga K "Slips") "z_wrong") ∧ Binds K fd ["self"] [] := by
  obtain ⟨fd, F⟩ := dSlipsWrong_fn T
  refine ⟨fd, F.ok scSlipsWrong (fun vs H Q E h => ?_) (fun cdv A outer s H vs Q E hr h => ?_), F.bindsN fun _ _ _ _ _ _ us hl => match us, hl with | [_], _ => rfl⟩
  · obtain ⟨a, dx, fs, v, rfl, _⟩ := h
    rfl
  · obtain ⟨a, dx, fs, v, rfl, ea, l, q⟩ := h
    exact ⟨_, pss_one (ps_ret (pe_fld (pv 0) rfl)), ⟨.ref a, rfl, a, _, dx, fs, v, rfl, ea, clsSlips T, no_z_wrong T, l, q⟩⟩
theorem pe_pWrong {X : Cx} {e : Expr} {ta : TE} {pos : Pos} {j : Nat} (T : Txt X.K X.mg) (hr : Room j X.A) (hk : 2 ≤ j) (he : PE X e ta) (hab : attributeBase e "wrong" X.env (eval e X.env) = eval e X.env := by rfl) : PE X (.Attribute e "wrong" pos) (tProp (He.ga X.K "Slips") (getSp (He.ga X.K "Slips") "z_wrong") [] E0 ta) := by
  obtain ⟨fd, F, b⟩ := fnSlipsWrong (P := X.prog) (w := X.w) (base := X.base) T
  exact pe_prop he (clsSlips T) (propSlipsWrong T) F (hr.mono hk) b .nil pass0 hab
theorem scSlipsSwapped : FnScope ["self"] ["self"] (defScope sSlipsSwapped) := ⟨rfl, rfl, rfl, by decide +kernel, rfl, by decide +kernel, by decide +kernel⟩
theorem fnSlipsSwapped {P : Program} {w : World} {K : PySem.W.Frag} {mg : Str → Option Value} {base : Heap} (T : Txt K mg) : ∃ fd, FnOk P w K mg base C8.CX0 1 (getterOf K "Slips" "swapped") fd ["self"] (getSp (He.ga K "Slips") "z_swapped") ∧ Binds K fd ["self"] [] := by
  obtain ⟨fd, F⟩ := dSlipsSwapped_fn T
  refine ⟨fd, F.ok scSlipsSwapped (fun vs H Q E h => ?_) (fun cdv A outer s H vs Q E hr h => ?_), F.bindsN fun _ _ _ _ _ _ us hl => match us, hl with | [_], _ => rfl⟩
  · obtain ⟨a, dx, fs, v, rfl, _⟩ := h
    rfl
  · obtain ⟨a, dx, fs, v, rfl, ea, l, q⟩ := h
    exact ⟨_, pss_one (ps_ret (pe_fld (pv 0) rfl)), ⟨.ref a, rfl, a, _, dx, fs, v, rfl, ea, clsSlips T, no_z_swapped T, l, q⟩⟩
theorem pe_pSwapped {X : Cx} {e : Expr} {ta : TE} {pos : Pos} {j : Nat} (T : Txt X.K X.mg) (hr : Room j X.A) (hk : 2 ≤ j) (he : PE X e ta) (hab : attributeBase e "swapped" X.env (eval e X.env) = eval e X.env := by rfl) : PE X (.Attribute e "swapped" pos) (tProp (He.ga X.K "Slips") (getSp (He.ga X.K "Slips") "z_swapped") [] E0 ta) := by
  obtain ⟨fd, F, b⟩ := fnSlipsSwapped (P := X.prog) (w := X.w) (base := X.base) T
  exact pe_prop he (clsSlips T) (propSlipsSwapped T) F (hr.mono hk) b .nil pass0 hab
theorem scSpellerEntries : FnScope ["self"] ["self"] (defScope sSpellerEntries) := ⟨rfl, rfl, rfl, by decide +kernel, rfl, by decide +kernel, by decide +kernel⟩
theorem fnSpellerEntries {P : Program} {w : World} {K : PySem.W.Frag} {mg : Str → Option Value} {base : Heap} (T : Txt K mg) : ∃ fd, FnOk P w K mg base C8.CX0 1 (getterOf K "Speller" "entries") fd ["self"] (getSp (He.ga K "Speller") "e_entries") ∧ Binds K fd ["self"] [] := by
  obtain ⟨fd, F⟩ := dSpellerEntries_fn T
  refine ⟨fd, F.ok scSpellerEntries (fun vs H Q E h => ?_) (fun cdv A outer s H vs Q E hr h => ?_), F.bindsN fun _ _ _ _ _ _ us hl => match us, hl with | [_], _ => rfl⟩
  · obtain ⟨a, dx, fs, v, rfl, _⟩ := h
    rfl
  · obtain ⟨a, dx, fs, v, rfl, ea, l, q⟩ := h
    exact ⟨_, pss_one (ps_ret (pe_fld (pv 0) rfl)), ⟨.ref a, rfl, a, _, dx, fs, v, rfl, ea, clsSpeller T, no_e_entries T, l, q⟩⟩
theorem pe_pEntries {X : Cx} {e : Expr} {ta : TE} {pos : Pos} {j : Nat} (T : Txt X.K X.mg) (hr : Room j X.A) (hk : 2 ≤ j) (he : PE X e ta) (hab : attributeBase e "entries" X.env (eval e X.env) = eval e X.env := by rfl) : PE X (.Attribute e "entries" pos) (tProp (He.ga X.K "Speller") (getSp (He.ga X.K "Speller") "e_entries") [] E0 ta) := by
  obtain ⟨fd, F, b⟩ := fnSpellerEntries (P := X.prog) (w := X.w) (base := X.base) T
  exact pe_prop he (clsSpeller T) (propSpellerEntries T) F (hr.mono hk) b .nil pass0 hab
theorem scSpellerSlips : FnScope ["self"] ["self"] (defScope sSpellerSlips) := ⟨rfl, rfl, rfl, by decide +kernel, rfl, by decide +kernel, by decide +kernel⟩
theorem fnSpellerSlips {P : Program} {w : World} {K : PySem.W.Frag} {mg : Str → Option Value} {base : Heap} (T : Txt K mg) : ∃ fd, FnOk P w K mg base C8.CX0 1 (getterOf K "Speller" "slips") fd ["self"] (getSp (He.ga K "Speller") "e_slips") ∧ Binds K fd ["self"] [] := by
  obtain ⟨fd, F⟩ := dSpellerSlips_fn T
  refine ⟨fd, F.ok scSpellerSlips (fun vs H Q E h => ?_) (fun cdv A outer s H vs Q E hr h => ?_), F.bindsN fun _ _ _ _ _ _ us hl => match us, hl with | [_], _ => rfl⟩
  · obtain ⟨a, dx, fs, v, rfl, _⟩ := h
    rfl
  · obtain ⟨a, dx, fs, v, rfl, ea, l, q⟩ := h
    exact ⟨_, pss_one (ps_ret (pe_fld (pv 0) rfl)), ⟨.ref a, rfl, a, _, dx, fs, v, rfl, ea, clsSpeller T, no_e_slips T, l, q⟩⟩
theorem pe_pSlips {X : Cx} {e : Expr} {ta : TE} {pos : Pos} {j : Nat} (T : Txt X.K X.mg) (hr : Room j X.A) (hk : 2 ≤ j) (he : PE X e ta) (hab : attributeBase e "slips" X.env (eval e X.env) = eval e X.env := by rfl) : PE X (.Attribute e "slips" pos) (tProp (He.ga X.K "Speller") (getSp (He.ga X.K "Speller") "e_slips") [] E0 ta) := by
  obtain ⟨fd, F, b⟩ := fnSpellerSlips (P := X.prog) (w := X.w) (base := X.base) T
  exact pe_prop he (clsSpeller T) (propSpellerSlips T) F (hr.mono hk) b .nil pass0 hab
theorem scListenerSpeller : FnScope ["self"] ["self"] (defScope sListenerSpeller) := ⟨rfl, rfl, rfl, by decide +kernel, rfl, by decide +kernel, by decide +kernel⟩
theorem fnListenerSpeller {P : Program} {w : World} {K : PySem.W.Frag} {mg : Str → Option Value} {base : Heap} (T : Txt K mg) : ∃ fd, FnOk P w K mg base C8.CX0 1 (getterOf K "Listener" "speller") fd ["self"] (getSp (He.ga K "Listener") "h_speller") ∧ Binds K fd ["self"] [] := by
  obtain ⟨fd, F⟩ := dListenerSpeller_fn T
  refine ⟨fd, F.ok scListenerSpeller (fun vs H Q E h => ?_) (fun cdv A outer s H vs Q E hr h => ?_), F.bindsN fun _ _ _ _ _ _ us hl => match us, hl with | [_], _ => rfl⟩
  · obtain ⟨a, dx, fs, v, rfl, _⟩ := h
    rfl
  · obtain ⟨a, dx, fs, v, rfl, ea, l, q⟩ := h
    exact ⟨_, pss_one (ps_ret (pe_fld (pv 0) rfl)), ⟨.ref a, rfl, a, _, dx, fs, v, rfl, ea, clsListener T, no_h_speller T, l, q⟩⟩
theorem pe_pSpeller {X : Cx} {e : Expr} {ta : TE} {pos : Pos} {j : Nat} (T : Txt X.K X.mg) (hr : Room j X.A) (hk : 2 ≤ j) (he : PE X e ta) (hab : attributeBase e "speller" X.env (eval e X.env) = eval e X.env := by rfl) : PE X (.Attribute e "speller" pos) (tProp (He.ga X.K "Listener") (getSp (He.ga X.K "Listener") "h_speller") [] E0 ta) := by
  obtain ⟨fd, F, b⟩ := fnListenerSpeller (P := X.prog) (w := X.w) (base := X.base) T
  exact pe_prop he (clsListener T) (propListenerSpeller T) F (hr.mono hk) b .nil pass0 hab
theorem scListenerLimit : FnScope ["self"] ["self"] (defScope sListenerLimit) := ⟨rfl, rfl, rfl, by decide +kernel, rfl, by decide +kernel, by decide +kernel⟩
theorem fnListenerLimit {P : Program} {w : World} {K : PySem.W.Frag} {mg : Str → Option Value} {base : Heap} (T : Txt K mg) : ∃ fd, FnOk P w K mg base C8.CX0 1 (getterOf K "Listener" "limit") fd ["self"] (getSp (He.ga K "Listener") "h_limit") ∧ Binds K fd ["self"] [] := by
  obtain ⟨fd, F⟩ := dListenerLimit_fn T
  refine ⟨fd, F.ok scListenerLimit (fun vs H Q E h => ?_) (fun cdv A outer s H vs Q E hr h => ?_), F.bindsN fun _ _ _ _ _ _ us hl => match us, hl with | [_], _ => rfl⟩
  · obtain ⟨a, dx, fs, v, rfl, _⟩ := h
    rfl
  · obtain ⟨a, dx, fs, v, rfl, ea, l, q⟩ := h
    exact ⟨_, pss_one (ps_ret (pe_fld (pv 0) rfl)), ⟨.ref a, rfl, a, _, dx, fs, v, rfl, ea, clsListener T, no_h_limit T, l, q⟩⟩
theorem pe_pLimit {X : Cx} {e : Expr} {ta : TE} {pos : Pos} {j : Nat} (T : Txt X.K X.mg) (hr : Room j X.A) (hk : 2 ≤ j) (he : PE X e ta) (hab : attributeBase e "limit" X.env (eval e X.env) = eval e X.env := by rfl) : PE X (.Attribute e "limit" pos) (tProp (He.ga X.K "Listener") (getSp (He.ga X.K "Listener") "h_limit") [] E0 ta) := by
  obtain ⟨fd, F, b⟩ := fnListenerLimit (P := X.prog) (w := X.w) (base := X.base) T
  exact pe_prop he (clsListener T) (propListenerLimit T) F (hr.mono hk) b .nil pass0 hab
theorem scMachineRows : FnScope ["self"] ["self"] (defScope sMachineRows) := ⟨rfl, rfl, rfl, by decide +kernel, rfl, by decide +kernel, by decide +kernel⟩
theorem fnMachineRows {P : Program} {w : World} {K : PySem.W.Frag} {mg : Str → Option Value} {base : Heap} (T : Txt K mg) : ∃ fd, FnOk P w K mg base C8.CX0 1 (getterOf K "Machine" "rows") fd ["self"] (getSp (He.ga K "Machine") "m_rows") ∧ Binds K fd ["self"] [] := by
  obtain ⟨fd, F⟩ := dMachineRows_fn T
  refine ⟨fd, F.ok scMachineRows (fun vs H Q E h => ?_) (fun cdv A outer s H vs Q E hr h => ?_), F.bindsN fun _ _ _ _ _ _ us hl => match us, hl with | [_], _ => rfl⟩
  · obtain ⟨a, dx, fs, v, rfl, _⟩ := h
    rfl
  · obtain ⟨a, dx, fs, v, rfl, ea, l, q⟩ := h
    exact ⟨_, pss_one (ps_ret (pe_fld (pv 0) rfl)), ⟨.ref a, rfl, a, _, dx, fs, v, rfl, ea, clsMachine T, no_m_rows T, l, q⟩⟩
theorem pe_pRows {X : Cx} {e : Expr} {ta : TE} {pos : Pos} {j : Nat} (T : Txt X.K X.mg) (hr : Room j X.A) (hk : 2 ≤ j) (he : PE X e ta) (hab : attributeBase e "rows" X.env (eval e X.env) = eval e X.env := by rfl) : PE X (.Attribute e "rows" pos) (tProp (He.ga X.K "Machine") (getSp (He.ga X.K "Machine") "m_rows") [] E0 ta) := by
  obtain ⟨fd, F, b⟩ := fnMachineRows (P := X.prog) (w := X.w) (base := X.base) T
  exact pe_prop he (clsMachine T) (propMachineRows T) F (hr.mono hk) b .nil pass0 hab
end Mw


set_option Elab.async false
set_option linter.all false
set_option maxRecDepth 100000
set_option maxHeartbeats 4000000
namespace Mw
open PySem PySem.Spec PyProof.Rows L2
/-! ### rules with the written part named (for blocks) -/
def rLenQ (K : PySem.W.Frag) : List V → Hp → VK → Prop := fun xs H Q => ∃ p ys, xs = [.ref p] ∧ (SqL K H p ys ∨ SqT K H p ys) ∧ Q (.int ys.length) H
def rListQ (K : PySem.W.Frag) : List V → Hp → VK → Prop := fun xs H Q => ∃ p ys, xs = [.ref p] ∧ (SqL K H p ys ∨ SqT K H p ys) ∧ ∀ l, H l = none → Q (.ref l) (upd H l (.lst ys))
def rTupQ (K : PySem.W.Frag) : List V → Hp → VK → Prop := fun xs H Q => ∃ p ys, xs = [.ref p] ∧ ((SqL K H p ys ∧ ∀ l, H l = none → Q (.ref l) (upd H l (.tup ys))) ∨ (SqT K H p ys ∧ Q (.ref p) H))
section
variable (K : PySem.W.Frag) {X : Cx} (h : X.K = K)
include h
theorem kLen : CallR X (.builtin "len") (rLenQ K) := by subst h; exact call_len_seq
theorem kList : CallR X (.type "list") (rListQ K) := by subst h; exact call_list_of
theorem kTup : CallR X (.type "tuple") (rTupQ K) := by subst h; exact call_tuple_of
theorem kIxT : IxR X (rIxT K) := by subst h; exact ix_tup
theorem kIxL : IxR X (rIxL K) := by subst h; exact ix_list
theorem kIn : OpR X (compareOp .In) (rIn K false) := by subst h; exact op_in_seq
theorem kNotIn : OpR X (compareOp .NotIn) (rIn K true) := by subst h; exact op_notIn_seq
theorem kEqD (hu : X.A.units + 64 < cLine) : OpR X (compareOp .Eq) (rEqD K) := by subst h; exact op_eqD hu
theorem kNeD (hu : X.A.units + 64 < cLine) : OpR X (compareOp .NotEq) (rNeD K) := by subst h; exact op_neD hu
theorem kCatA : OpR X (binaryOp .Add) (rCatA K) := by subst h; exact op_catA
theorem kSlA : SlR X (rSlA K) := by subst h; exact sl_tupA
theorem kSlL : SlR X (rSlL K) := by subst h; exact sl_list
theorem kSum (hc : X.calm = true) : CallR X (.builtin "sum") (rSum K) := by subst h; exact cr_sum hc
theorem kMax (hc : X.calm = true) : CallR X (.builtin "max") (rMax K) := by subst h; exact cr_max hc
theorem kMin (hc : X.calm = true) : CallR X (.builtin "min") (rMin K) := by subst h; exact cr_min hc
theorem kAll (hc : X.calm = true) : CallR X (.builtin "all") (rAll K) := by subst h; exact cr_all hc
theorem kIndex : MtR X "list.index" (rIndex K) := by subst h; exact mt_index
theorem kPiT {tg l : Expr} {tl : TE} (hl : PE X l tl) : PI X tg l (iTup K tl) := by subst h; exact pi_tup hl
theorem kPiL {tg l : Expr} {tl : TE} (hl : PE X l tl) : PI X tg l (iList K tl) := by subst h; exact pi_list hl
def rJoin (K : PySem.W.Frag) : V → List V → Hp → VK → Prop := fun x xs H Q => ∃ a p, ∃ ys : List Str, x = .str a ∧ xs = [.ref p] ∧ (SqL K H p (ys.map V.str) ∨ SqT K H p (ys.map V.str)) ∧ (ys.map (·.length)).sum + ys.length * a.length ≤ 16777216 ∧ Q (.str (Txt.join a ys)) H
theorem kJoin {o e : Expr} {to te : TE} {apos pos : Pos} (ho : PE X o to) (he : PE X e te) (hs : starEach [e] X.env = [(false, eval e X.env)] := by rfl) (hbase : attributeBase o "join" X.env (eval o X.env) = eval o X.env := by rfl) (hline : (apos.endLine == pos.line) = true := by rfl) :
    PE X (.Call (.Attribute o "join" apos) [e] [] pos) (tM1 (rJoin K) to te) := by subst h; exact pe_join ho he hs hbase hline
end
theorem blkOk_eq {N : List Str} {sc sc' scope : Scope} {own : List (Str × Nat)} (e : sc' = sc) (h : blkC N sc scope own = true) : BlkOk N sc' scope own := by subst e; exact blkOk_by h
/-- the scope of a comprehension; a statement's value; what a comprehension makes; an argument -/
def lcSc : Expr → Scope
  | .ListComp _ _ s _ => s
  | _ => default
def stVal : Stmt → Expr
  | .Assign _ e _ => e
  | .Return (some e) _ => e
  | _ => .Constant .none 0 ⟨0, 0, 0, 0⟩
/-- a block's scope within a def's: the names of the def that it reads are cells -/
def reSc (o sc : Scope) : Scope := { sc with names := sc.names.map fun (n, k) => if (k == .free && o.kind == .function && o.names.lookup n == some .cell) then (n, .cell) else (n, k) }
section
variable (P : Program) (w : World) {X : Cx} (hP : X.prog = P) (hw : X.w = w)
include hP hw
theorem kNewL {pos : Pos} : PE X (.Dict [] [] pos) (tDNewL P w) := by subst hP hw; exact pe_dnewL
theorem kNewN {pos : Pos} : PE X (.Dict [] [] pos) (tDNewN P w) := by subst hP hw; exact pe_dnewN
theorem kSetdL {o e f : Expr} {td ty tx : TE} {apos cpos : Pos} (ho : PE X o td) (he : PE X e ty) (hf : PE X f tx) (m : M2 X o "setdefault" apos e f cpos) : PE X (.Call (.Attribute o "setdefault" apos) [e, f] [] cpos) (tLSetd P w td ty tx) := by subst hP hw; exact pe_lsetd ho he hf m
theorem kSetdN {o e f : Expr} {td ty tx : TE} {apos cpos : Pos} (hu : X.A.units + 64 < cLine) (ho : PE X o td) (he : PE X e ty) (hf : PE X f tx) (m : M2 X o "setdefault" apos e f cpos) : PE X (.Call (.Attribute o "setdefault" apos) [e, f] [] cpos) (tNDSetd P w td ty tx) := by subst hP hw; exact pe_ndsetd hu ho he hf m
theorem kNget {pos : Pos} {o i : Expr} {ty td : TE} (hu : X.A.units + 64 < cLine) (ho : PE X o td) (hi : PE X i ty) (hs : NoSl i) : PE X (.Subscript o i pos) (tNDGet P w td ty) := by subst hP hw; exact pe_ndget hu ho hi hs
end
end Mw


set_option Elab.async false
set_option linter.all false
set_option maxRecDepth 100000
set_option maxHeartbeats 4000000
namespace Mw
open PySem PySem.Spec PyProof.Rows L2
open C8 (Cal pe_c Mak pe_mk)
/-! ### what may stand for what -/
def optI : Option Int → V
  | none => .non
  | some i => .int i
abbrev slFs (p : Pr) : List (Str × V) := [("z_extra", .int p.x), ("z_missing", .int p.y), ("z_wrong", .int p.wr), ("z_swapped", optI p.sw)]
section
variable {P : Program} {w : World} {K : PySem.W.Frag} {mg : Str → Option Value} {base : Heap}
theorem ltr_eq : ("abcdefghijklmnopqrstuvwxyz" : Str).cps.toList = alphaL := by decide +kernel
theorem ltr_mem {c : Nat} (h : c ∈ alphaL) : c ∈ ("abcdefghijklmnopqrstuvwxyz" : Str).cps.toList := by rw [ltr_eq]; exact h
/-! ### is_integer -/
abbrev NIsInteger : List Str := ["thing"]
theorem scIsInteger : FnScope NIsInteger ["thing"] (defScope sIsInteger) := ⟨rfl, rfl, rfl, by decide +kernel, rfl, by decide +kernel, by decide +kernel⟩
def spIsInteger (P : Program) (w : World) (K : PySem.W.Frag) : Sp := fun vs H Q _ => ∃ i : Int, vs = [.int i] ∧ Q (.bl true) H
theorem oIsInteger (T : Txt K mg) : Cal P w K mg base 1 "is_integer" (spIsInteger P w K) [] := by
  refine calD (dIsInteger_fn T) (gIsInteger T) scIsInteger (fun vs H Q E h => ?_) (fun _ _ _ _ _ _ us hl => match us, hl with | [_], _ => rfl) (fun cdv A outer s H vs Q E hr h => ?_)
  · obtain ⟨i, rfl, _⟩ := h
    rfl
  · obtain ⟨i, rfl, q⟩ := h
    refine ⟨_, PSs.nox (pss_one (ps_ret (pe_and (pe_callB call_isi (by rfl) (f_isinstance T) (by decide +kernel) (pa_cons (pv 0) (pa_cons (pe_bltn (v := .ty "int") (by rfl) (f_int T) boot_int rfl) pa_nil))) (pe_one (pe_not (pe_callB call_isi (by rfl) (f_isinstance T) (by decide +kernel) (pa_cons (pv 0) (pa_cons (pe_bltn (v := .ty "bool") (by rfl) (f_bool T) boot_bool rfl) pa_nil)))))))), ?_⟩
    refine ⟨_, rfl, .int i, .ty "int", .type "int", .type "int", true, rfl, .ty _, .base (.int i), kit_ty (by decide +kernel), true, rfl, ?_⟩
    refine iteT ⟨_, rfl, .int i, .ty "bool", .type "int", .type "bool", false, rfl, .ty _, .base (.int i), kit_ty (by decide +kernel), false, rfl, q⟩
/-! ### is_text -/
abbrev NIsText : List Str := ["thing", "sign"]
theorem scIsText : FnScope NIsText ["thing"] (defScope sIsText) := ⟨rfl, rfl, rfl, by decide +kernel, rfl, by decide +kernel, by decide +kernel⟩
def spIsText (P : Program) (w : World) (K : PySem.W.Frag) : Sp := fun vs H Q _ => ∃ l : List Nat, vs = [.str (tx l)] ∧ (∀ c ∈ l, c ∈ alphaL) ∧ l.length ≤ 100000 ∧ ∀ H', Same H H' → Q (.bl true) H'
theorem oIsText (T : Txt K mg) : Cal P w K mg base 1 "is_text" (spIsText P w K) [] := by
  refine calD (dIsText_fn T) (gIsText T) scIsText (fun vs H Q E h => ?_) (fun _ _ _ _ _ _ us hl => match us, hl with | [_], _ => rfl) (fun cdv A outer s H vs Q E hr h => ?_)
  · obtain ⟨i, rfl, _⟩ := h
    rfl
  · obtain ⟨l, rfl, hl, hn, q⟩ := h
    refine ⟨_, PSs.nox (pss_one (ps_ret (pe_and (pe_callB call_isi (by rfl) (f_isinstance T) (by decide +kernel) (pa_cons (pv 0) (pa_cons (pe_bltn (v := .ty "str") (by rfl) (f_str T) boot_str rfl) pa_nil))) (pe_one (pe_callB (kAll K rfl rfl) (by rfl) (f_all T) (by decide +kernel) (pa_cons (pe_lc (own := [("sign", 1)]) (g := gName 1) rfl scIsText.nd (pi_str (pv 0)) (blkOk_by (own := [("sign", 1)]) (N := NIsText) (sc := defScope sIsText) (by decide +kernel)) (fun _ _ _ _ _ => (pg_name (i := 1) scIsText.nd rfl (.inl rfl))) (fun _ _ _ _ _ => pts_nil) (fun _ _ _ _ _ => (pe_cmpR op_in_sign (pv 1) (pe_glob (by rfl) (c_LETTERS T).choose_spec.1 (c_LETTERS T).choose_spec.2) (by rfl)))) pa_nil)))))), ?_⟩
    refine ⟨_, rfl, .str (tx l), .ty "str", .type "str", .type "str", true, rfl, .ty _, .base (.str _), kit_ty (by decide +kernel), true, rfl, ?_⟩
    refine iteT ⟨.str (tx l), rfl, tx l, rfl, fun D hD => lc_map walk_str noA (fun i ys H => ys = (List.replicate i true).map V.bl) hD id (by show (tx l).cps.size ≤ _; simp; omega) (fun _ _ _ _ _ _ => trivial) rfl ?_ ?_⟩
    · rintro i x H1 H2 ys hi k rfl ⟨rfl, c, hc, rfl⟩ e push
      refine ⟨rfl, _, rfl, c, _, rfl, rfl, push _ _ Kp.refl ?_⟩
      have hm : c ∈ l := by
        have q : l[i]? = some c := by simpa using hc
        exact List.mem_of_getElem? q
      rw [decide_eq_true (ltr_mem (hl c hm)), List.replicate_succ', List.map_append]
      rfl
    · intro H1 ys k e t
      subst t
      refine ⟨_, _, rfl, .inl (.inl e), ?_⟩
      have hb : (List.replicate (tx l).cps.size true).all id = true := by simp
      rw [hb]
      exact q H1 k.toSame
/-! ### is_letter -/
abbrev NIsLetter : List Str := ["thing"]
theorem scIsLetter : FnScope NIsLetter ["thing"] (defScope sIsLetter) := ⟨rfl, rfl, rfl, by decide +kernel, rfl, by decide +kernel, by decide +kernel⟩
def spIsLetter (P : Program) (w : World) (K : PySem.W.Frag) : Sp := fun vs H Q _ => ∃ c : Nat, vs = [.str (tx [c])] ∧ c ∈ alphaL ∧ ∀ H', Same H H' → Q (.bl true) H'
theorem oIsLetter (T : Txt K mg) : Cal P w K mg base 2 "is_letter" (spIsLetter P w K) [] := by
  refine calD (dIsLetter_fn T) (gIsLetter T) scIsLetter (fun vs H Q E h => ?_) (fun _ _ _ _ _ _ us hl => match us, hl with | [_], _ => rfl) (fun cdv A outer s H vs Q E hr h => ?_)
  · obtain ⟨i, rfl, _⟩ := h
    rfl
  · obtain ⟨c, rfl, hc, q⟩ := h
    refine ⟨_, PSs.nox (pss_one (ps_ret (pe_and (pe_c (oIsText T) hr (by decide) (by rfl) (pa_cons (pv 0) pa_nil)) (pe_one (pe_cmpR op_eq (pe_callB call_len_str (by rfl) (f_len T) (by decide +kernel) (pa_cons (pv 0) pa_nil)) pe_int (nomark _)))))), ?_⟩
    refine ⟨_, rfl, [c], rfl, fun d hd => by rcases List.mem_singleton.mp hd with rfl; exact hc, by show 1 ≤ 100000; omega, fun H1 s1 => ⟨true, rfl, iteT ⟨_, rfl, _, rfl, by rw [sizeLine_eq, tx_len]; show 1 ≤ 16777216; omega, rfl, ?_⟩⟩⟩
    exact q H1 s1
/-! ### is_word -/
abbrev NIsWord : List Str := ["thing"]
theorem scIsWord : FnScope NIsWord ["thing"] (defScope sIsWord) := ⟨rfl, rfl, rfl, by decide +kernel, rfl, by decide +kernel, by decide +kernel⟩
def spIsWord (P : Program) (w : World) (K : PySem.W.Frag) : Sp := fun vs H Q _ => ∃ l : List Nat, vs = [.str (tx l)] ∧ (∀ c ∈ l, c ∈ alphaL) ∧ 1 ≤ l.length ∧ l.length ≤ 5 ∧ ∀ H', Same H H' → Q (.bl true) H'
theorem oIsWord (T : Txt K mg) : Cal P w K mg base 2 "is_word" (spIsWord P w K) [] := by
  refine calD (dIsWord_fn T) (gIsWord T) scIsWord (fun vs H Q E h => ?_) (fun _ _ _ _ _ _ us hl => match us, hl with | [_], _ => rfl) (fun cdv A outer s H vs Q E hr h => ?_)
  · obtain ⟨i, rfl, _⟩ := h
    rfl
  · obtain ⟨l, rfl, hc, h1, h5, q⟩ := h
    refine ⟨_, PSs.nox (pss_one (ps_ret (pe_and (pe_c (oIsText T) hr (by decide) (by rfl) (pa_cons (pv 0) pa_nil)) (pe_one (pe_chain op_le op_le pe_int (pe_callB call_len_str (by rfl) (f_len T) (by decide +kernel) (pa_cons (pv 0) pa_nil)) (pe_glob (by rfl) (c_LONGEST T).choose_spec.1 (c_LONGEST T).choose_spec.2)))))), ?_⟩
    refine ⟨_, rfl, l, rfl, hc, by omega, fun H1 s1 => ⟨true, rfl, iteT ⟨_, rfl, _, rfl, by rw [sizeLine_eq, tx_len]; omega, ?_⟩⟩⟩
    refine ⟨_, _, rfl, rfl, _, rfl, iteD (by rw [tx_len]; omega) ⟨_, _, rfl, rfl, ?_⟩⟩
    exact bT (F := Q) (show ((tx l).length : Int) ≤ 5 by rw [tx_len]; omega) (q H1 s1)
/-! ### is_price -/
abbrev NIsPrice : List Str := ["thing"]
theorem scIsPrice : FnScope NIsPrice ["thing"] (defScope sIsPrice) := ⟨rfl, rfl, rfl, by decide +kernel, rfl, by decide +kernel, by decide +kernel⟩
def spIsPrice (P : Program) (w : World) (K : PySem.W.Frag) : Sp := fun vs H Q _ => ∃ i : Int, vs = [.int i] ∧ 1 ≤ i ∧ i ≤ 9 ∧ Q (.bl true) H
theorem oIsPrice (T : Txt K mg) : Cal P w K mg base 2 "is_price" (spIsPrice P w K) [] := by
  refine calD (dIsPrice_fn T) (gIsPrice T) scIsPrice (fun vs H Q E h => ?_) (fun _ _ _ _ _ _ us hl => match us, hl with | [_], _ => rfl) (fun cdv A outer s H vs Q E hr h => ?_)
  · obtain ⟨i, rfl, _⟩ := h
    rfl
  · obtain ⟨i, rfl, h1, h9, q⟩ := h
    refine ⟨_, PSs.nox (pss_one (ps_ret (pe_and (pe_c (oIsInteger T) hr (by decide) (by rfl) (pa_cons (pv 0) pa_nil)) (pe_one (pe_chain op_le op_le pe_int (pv 0) (pe_glob (by rfl) (c_DEAREST T).choose_spec.1 (c_DEAREST T).choose_spec.2)))))), ?_⟩
    refine ⟨_, rfl, i, rfl, true, rfl, iteT ⟨_, rfl, _, _, rfl, rfl, _, rfl, iteD h1 ⟨_, _, rfl, rfl, ?_⟩⟩⟩
    exact bT (F := Q) h9 q
/-! ### need_text -/
abbrev NNeedText : List Str := ["thing"]
theorem scNeedText : FnScope NNeedText ["thing"] (defScope sNeedText) := ⟨rfl, rfl, rfl, by decide +kernel, rfl, by decide +kernel, by decide +kernel⟩
def spNeedText (P : Program) (w : World) (K : PySem.W.Frag) : Sp := fun vs H Q _ => ∃ l : List Nat, vs = [.str (tx l)] ∧ (∀ c ∈ l, c ∈ alphaL) ∧ l.length ≤ 100000 ∧ ∀ H', Same H H' → Q .non H'
theorem oNeedText (T : Txt K mg) : Cal P w K mg base 2 "need_text" (spNeedText P w K) [] := by
  refine calD (dNeedText_fn T) (gNeedText T) scNeedText (fun vs H Q E h => ?_) (fun _ _ _ _ _ _ us hl => match us, hl with | [_], _ => rfl) (fun cdv A outer s H vs Q E hr h => ?_)
  · obtain ⟨l, rfl, _⟩ := h
    rfl
  · obtain ⟨l, rfl, hl, hn, q⟩ := h
    refine ⟨_, PSs.nox (pss_one (ps_if (pt_not (pt_val (pe_c (oIsText T) hr (by decide) (by rfl) (pa_cons (pv 0) pa_nil))))
       (pss_one ps_never)
       pss_nil)), ?_⟩
    exact ⟨_, rfl, l, rfl, hl, hn, fun H1 s1 => ⟨true, rfl, iteF (q H1 s1)⟩⟩
/-! ### Slips.__init__ -/
abbrev NSlipsInit : List Str := ["self", "extra", "missing", "wrong", "swapped"]
theorem scSlipsInit : FnScope NSlipsInit ["self", "extra", "missing", "wrong", "swapped"] (defScope sSlipsInit) := ⟨rfl, rfl, rfl, by decide +kernel, rfl, by decide +kernel, by decide +kernel⟩
def spSlipsInit (P : Program) (w : World) (K : PySem.W.Frag) : Sp := fun vs H Q _ => ∃ (a dx : Addr) (p : Pr), vs = [.ref a, .int p.x, .int p.y, .int p.wr, optI p.sw] ∧ PrOk p ∧ H a = some (.ins (He.ga K "Slips") dx []) ∧
  ∀ H', (∀ b o, b ≠ a → H b = some o → H' b = some o) → H' a = some (.ins (He.ga K "Slips") dx (slFs p)) → Q .non H'
theorem fnSlipsInit (T : Txt K mg) : ∃ fd, FnOk P w K mg base C8.CX0 3 (He.ma K (He.ga K "Slips") "__init__") fd ["self", "extra", "missing", "wrong", "swapped"] (spSlipsInit P w K) ∧
    ∃ mv : List Value, KBn K fd ["self", "extra", "missing", "wrong", "swapped"] 1 ["extra", "missing", "wrong", "swapped"] (fun us ws => us ++ ws) (fun vs zs => vs ++ zs) := by
  obtain ⟨fd, F⟩ := dSlipsInit_fn T
  refine ⟨fd, F.ok scSlipsInit (fun vs H Q E h => ?_) (fun cdv A outer s H vs Q E hr h => ?_), ?_⟩
  · obtain ⟨a, dx, p, rfl, _⟩ := h
    rfl
  · obtain ⟨a, dx, p, rfl, hp, ha, q⟩ := h
    refine ⟨_, PSs.nox (pss_cons (ps_if (pt_not (pt_val (pe_c (oIsPrice T) hr (by decide) (by rfl) (pa_cons (pv 1) pa_nil))))
       (pss_one ps_never)
       pss_nil)
       (pss_cons (ps_if (pt_not (pt_val (pe_c (oIsPrice T) hr (by decide) (by rfl) (pa_cons (pv 2) pa_nil))))
       (pss_one ps_never)
       pss_nil)
       (pss_cons (ps_if (pt_not (pt_val (pe_c (oIsPrice T) hr (by decide) (by rfl) (pa_cons (pv 3) pa_nil))))
       (pss_one ps_never)
       pss_nil)
       (pss_cons (ps_if (PW.pt (pw_and (pt_cmpR op_notN (pv 4) pe_non (nomark _)) (pw_and1 (pt_not (pt_val (pe_c (oIsPrice T) hr (by decide) (by rfl) (pa_cons (pv 4) pa_nil)))))))
       (pss_one ps_never)
       pss_nil)
       (pss_cons (ps_fld (pv 0) (pv 1) rfl)
       (pss_cons (ps_fld (pv 0) (pv 2) rfl)
       (pss_cons (ps_fld (pv 0) (pv 3) rfl)
       (pss_one (ps_fld (pv 0) (pv 4) rfl))))))))), ?_⟩
    obtain ⟨px, py, pw, ps⟩ := p
    refine ⟨_, rfl, px, rfl, hp.x.1, hp.x.2, true, rfl, iteF ?_⟩
    refine ⟨_, rfl, py, rfl, hp.y.1, hp.y.2, true, rfl, iteF ?_⟩
    refine ⟨_, rfl, pw, rfl, hp.wr.1, hp.wr.2, true, rfl, iteF ?_⟩
    cases ps with
    | none =>
      refine ⟨_, rfl, rfl, _, rfl, ?_⟩
      refine iteF (iteF ?_)
      refine ⟨_, rfl, _, rfl, a, _, dx, _, rfl, ha, clsSlips T, no_z_extra T, by show 0 < 1000; omega, ?_⟩
      refine ⟨_, rfl, _, rfl, a, _, dx, _, rfl, upd_same, clsSlips T, no_z_missing T, by show 1 < 1000; omega, ?_⟩
      refine ⟨_, rfl, _, rfl, a, _, dx, _, rfl, upd_same, clsSlips T, no_z_wrong T, by show 2 < 1000; omega, ?_⟩
      refine ⟨_, rfl, _, rfl, a, _, dx, _, rfl, upd_same, clsSlips T, no_z_swapped T, by show 3 < 1000; omega, ?_⟩
      exact q _ (fun b o nb e => by rw [upd_ne nb, upd_ne nb, upd_ne nb, upd_ne nb]; exact e) upd_same
    | some z =>
      refine ⟨_, rfl, rfl, _, rfl, ?_⟩
      refine iteT ⟨_, rfl, z, rfl, (hp.sw z rfl).1, (hp.sw z rfl).2, true, rfl, iteF ?_⟩
      refine ⟨_, rfl, _, rfl, a, _, dx, _, rfl, ha, clsSlips T, no_z_extra T, by show 0 < 1000; omega, ?_⟩
      refine ⟨_, rfl, _, rfl, a, _, dx, _, rfl, upd_same, clsSlips T, no_z_missing T, by show 1 < 1000; omega, ?_⟩
      refine ⟨_, rfl, _, rfl, a, _, dx, _, rfl, upd_same, clsSlips T, no_z_wrong T, by show 2 < 1000; omega, ?_⟩
      refine ⟨_, rfl, _, rfl, a, _, dx, _, rfl, upd_same, clsSlips T, no_z_swapped T, by show 3 < 1000; omega, ?_⟩
      exact q _ (fun b o nb e => by rw [upd_ne nb, upd_ne nb, upd_ne nb, upd_ne nb]; exact e) upd_same
  · exact F.kbinds0 1 ["extra", "missing", "wrong", "swapped"] [] (fun us mv ws => us ++ ws) (fun z => by cases z) (fun q hq => by cases hq) (fun r1 _ r3 => r1.append r3)
      (fun D doc pm an cdv ct us mv ws h1 h2 h3 => match us, mv, ws, h1, h2, h3 with | [_], [], [_, _, _, _], _, _, _ => rfl)
end
end Mw


set_option Elab.async false
set_option linter.all false
set_option maxRecDepth 100000
set_option maxHeartbeats 4000000
namespace Mw
open PySem PySem.Spec PyProof.Rows L2
open C8 (Cal pe_c Mak pe_mk)
/-! ### entries, spellers, listeners -/
def EntT (H : Hp) (v : V) (e : Ent) : Prop := ∃ a, v = .ref a ∧ H a = some (.tup [.str (tx e.1), .int e.2])
theorem EntT.im {H H' : Hp} {v : V} {e : Ent} (h : EntT H v e) (k : Imm H H') : EntT H' v e := by
  obtain ⟨a, e1, e2⟩ := h
  exact ⟨a, e1, k.tup e2⟩
abbrev EntsV (H : Hp) (vs : List V) (es : List Ent) : Prop := Paired (EntT H) vs es
theorem EntsV.im {H H' : Hp} {vs : List V} {es : List Ent} (h : EntsV H vs es) (k : Imm H H') : EntsV H' vs es := Paired.mapP h fun _ _ q => q.im k
theorem Paired.get {α β : Type} {F : α → β → Prop} : ∀ {l1 : List α} {l2 : List β}, Paired F l1 l2 → ∀ {i : Nat} {b : β}, l2[i]? = some b → ∃ a, l1[i]? = some a ∧ F a b
  | _, _, .nil, i, b, h => by simp at h
  | _, _, .cons (a := a) h t, 0, b, e => by
    have e' := Option.some.inj e
    subst e'
    exact ⟨a, rfl, h⟩
  | _, _, .cons h t, i + 1, b, e => Paired.get t (i := i) (by simpa using e)
theorem Paired.getL {α β : Type} {F : α → β → Prop} : ∀ {l1 : List α} {l2 : List β}, Paired F l1 l2 → ∀ {i : Nat} {a : α}, l1[i]? = some a → ∃ b, l2[i]? = some b ∧ F a b
  | _, _, .nil, i, b, h => by simp at h
  | _, _, .cons (b := b) h t, 0, a, e => by
    have e' := Option.some.inj e
    subst e'
    exact ⟨b, rfl, h⟩
  | _, _, .cons h t, i + 1, b, e => Paired.getL t (i := i) (by simpa using e)
theorem Paired.snoc {α β : Type} {F : α → β → Prop} {a : α} {b : β} (h : F a b) : ∀ {l1 : List α} {l2 : List β}, Paired F l1 l2 → Paired F (l1 ++ [a]) (l2 ++ [b])
  | _, _, .nil => .cons h .nil
  | _, _, .cons x t => .cons x (Paired.snoc h t)
/-- words -/
abbrev wds (es : List Ent) : List (List Nat) := es.map (·.1)
def txs (ws : List (List Nat)) : List V := ws.map fun x => V.str (tx x)
theorem txs_flat (ws : List (List Nat)) : (txs ws).all flatV = true := by
  unfold txs
  rw [List.all_map]
  exact List.all_eq_true.mpr fun x _ => rfl
theorem inV_txs (x : List Nat) (ws : List (List Nat)) : inV (.str (tx x)) (txs ws) = decide (x ∈ ws) := by
  unfold inV txs
  rw [List.any_map]
  induction ws with
  | nil => rfl
  | cons y ws ih =>
    rw [List.any_cons, ih]
    have e : (eqV (.str (tx y)) (.str (tx x))) = decide (x = y) := by
      show (tx y == tx x) = _
      by_cases q : x = y
      · rw [q]; simp
      · rw [decide_eq_false q]
        exact beq_eq_false_iff_ne.mpr fun z => q (tx_inj z).symm
    show (eqV (.str (tx y)) (.str (tx x)) || _) = _
    rw [e, ← Bool.decide_or]
    congr 1
    rw [List.mem_cons]
section
variable (K : PySem.W.Frag)
def SlipsAt (H : Hp) (a : Addr) (p : Pr) : Prop := ∃ dx, H a = some (.ins (He.ga K "Slips") dx (slFs p))
def SpellerAt (H : Hp) (a : Addr) (p : Pr) (es : List Ent) : Prop := ∃ dx e s vs, H a = some (.ins (He.ga K "Speller") dx [("e_entries", .ref e), ("e_slips", .ref s)]) ∧ H e = some (.tup vs) ∧ EntsV H vs es ∧ SlipsAt K H s p
def ListenerAt (H : Hp) (a : Addr) (L : Lis) : Prop := ∃ dx sp, H a = some (.ins (He.ga K "Listener") dx [("h_speller", .ref sp), ("h_limit", .int L.lim)]) ∧ SpellerAt K H sp L.p L.es
end
section
variable {P : Program} {w : World} {K : PySem.W.Frag} {mg : Str → Option Value} {base : Heap}
theorem SlipsAt.im {H H' : Hp} {a : Addr} {p : Pr} (h : SlipsAt K H a p) (k : Imm H H') : SlipsAt K H' a p := by
  obtain ⟨dx, e⟩ := h
  exact ⟨dx, k.ins e⟩
theorem SpellerAt.im {H H' : Hp} {a : Addr} {p : Pr} {es : List Ent} (h : SpellerAt K H a p es) (k : Imm H H') : SpellerAt K H' a p es := by
  obtain ⟨dx, e, s, vs, h1, h2, h3, h4⟩ := h
  exact ⟨dx, e, s, vs, k.ins h1, k.tup h2, h3.im k, h4.im k⟩
theorem ListenerAt.im {H H' : Hp} {a : Addr} {L : Lis} (h : ListenerAt K H a L) (k : Imm H H') : ListenerAt K H' a L := by
  obtain ⟨dx, sp, h1, h2⟩ := h
  exact ⟨dx, sp, k.ins h1, h2.im k⟩
/-! ### is_own -/
abbrev NIsOwn : List Str := ["thing"]
theorem scIsOwn : FnScope NIsOwn ["thing"] (defScope sIsOwn) := ⟨rfl, rfl, rfl, by decide +kernel, rfl, by decide +kernel, by decide +kernel⟩
def spIsOwn (P : Program) (w : World) (K : PySem.W.Frag) : Sp := fun vs H Q _ => ∃ i : Int, vs = [.int i] ∧ 0 ≤ i ∧ i ≤ 999 ∧ Q (.bl true) H
theorem oIsOwn (T : Txt K mg) : Cal P w K mg base 2 "is_own" (spIsOwn P w K) [] := by
  refine calD (dIsOwn_fn T) (gIsOwn T) scIsOwn (fun vs H Q E h => ?_) (fun _ _ _ _ _ _ us hl => match us, hl with | [_], _ => rfl) (fun cdv A outer s H vs Q E hr h => ?_)
  · obtain ⟨i, rfl, _⟩ := h
    rfl
  · obtain ⟨i, rfl, h1, h9, q⟩ := h
    refine ⟨_, PSs.nox (pss_one (ps_ret (pe_and (pe_c (oIsInteger T) hr (by decide) (by rfl) (pa_cons (pv 0) pa_nil)) (pe_one (pe_chain op_le op_le pe_int (pv 0) (pe_glob (by rfl) (c_DEAREST_OWN T).choose_spec.1 (c_DEAREST_OWN T).choose_spec.2)))))), ?_⟩
    refine ⟨_, rfl, i, rfl, true, rfl, iteT ⟨_, rfl, _, _, rfl, rfl, _, rfl, iteD h1 ⟨_, _, rfl, rfl, ?_⟩⟩⟩
    exact bT (F := Q) h9 q
/-! ### is_entry -/
abbrev NIsEntry : List Str := ["thing"]
theorem scIsEntry : FnScope NIsEntry ["thing"] (defScope sIsEntry) := ⟨rfl, rfl, rfl, by decide +kernel, rfl, by decide +kernel, by decide +kernel⟩
def spIsEntry (P : Program) (w : World) (K : PySem.W.Frag) : Sp := fun vs H Q _ => ∃ (v : V) (e : Ent), vs = [v] ∧ EntT H v e ∧ EntOk e ∧ ∀ H', Same H H' → Q (.bl true) H'
theorem oIsEntry (T : Txt K mg) : Cal P w K mg base 3 "is_entry" (spIsEntry P w K) [] := by
  refine calD (dIsEntry_fn T) (gIsEntry T) scIsEntry (fun vs H Q E h => ?_) (fun _ _ _ _ _ _ us hl => match us, hl with | [_], _ => rfl) (fun cdv A outer s H vs Q E hr h => ?_)
  · obtain ⟨v, e, rfl, _⟩ := h
    rfl
  · obtain ⟨v, e, rfl, ⟨a, rfl, ha⟩, ok, q⟩ := h
    refine ⟨_, PSs.nox (pss_one (ps_ret (pe_and (pe_callB call_isi (by rfl) (f_isinstance T) (by decide +kernel) (pa_cons (pv 0) (pa_cons (pe_bltn (v := .ty "tuple") (by rfl) (f_tuple T) boot_tuple rfl) pa_nil))) (pe_and (pe_cmpR op_eq (pe_callB (kLen K rfl) (by rfl) (f_len T) (by decide +kernel) (pa_cons (pv 0) pa_nil)) pe_int (nomark _)) (pe_and (pe_c (oIsWord T) hr (by decide) (by rfl) (pa_cons (pe_ix (kIxT K rfl) (pv 0) pe_int (fun _ _ => rfl)) pa_nil)) (pe_one (pe_c (oIsOwn T) hr (by decide) (by rfl) (pa_cons (pe_ix (kIxT K rfl) (pv 0) pe_int (fun _ _ => rfl)) pa_nil)))))))), ?_⟩
    refine ⟨_, rfl, .ref a, .ty "tuple", .type "tuple", .type "tuple", true, rfl, .ty _, .base (.tup ha), kit_ty (by decide +kernel), true, rfl, iteT ?_⟩
    refine ⟨_, rfl, _, _, rfl, .inr (.inl (.inl ha)), rfl, true, rfl, iteT ?_⟩
    refine ⟨_, rfl, a, _, _, .str (tx e.1), rfl, rfl, .inl (.inl ha), rfl, e.1, rfl, ok.abc, ok.lo, ok.hi, fun H1 s1 => ⟨true, rfl, iteT ?_⟩⟩
    exact ⟨_, rfl, a, _, _, .int e.2, rfl, rfl, .inl (.inl (s1 _ _ ha)), rfl, e.2, rfl, ok.own.1, ok.own.2, q H1 s1⟩
/-! ### need_entries -/
abbrev NNeedEntries : List Str := ["entries", "words", "at", "entry"]
theorem scNeedEntries : FnScope NNeedEntries ["entries"] (defScope sNeedEntries) := ⟨rfl, rfl, rfl, by decide +kernel, rfl, by decide +kernel, by decide +kernel⟩
def spNeedEntries (P : Program) (w : World) (K : PySem.W.Frag) : Sp := fun vs H Q _ => ∃ (a : Addr) (xs : List V) (es : List Ent), vs = [.ref a] ∧ H a = some (.lst xs) ∧ EntsV H xs es ∧ EntsOk es ∧ ∀ H', Same H H' → Q .non H'
theorem oNeedEntries (T : Txt K mg) : Cal P w K mg base 4 "need_entries" (spNeedEntries P w K) [] := by
  refine calD (dNeedEntries_fn T) (gNeedEntries T) scNeedEntries (fun vs H Q E h => ?_) (fun _ _ _ _ _ _ us hl => match us, hl with | [_], _ => rfl) (fun cdv A outer s H vs Q E hr h => ?_)
  · obtain ⟨v, xs, es, rfl, _⟩ := h
    rfl
  · obtain ⟨a, xs, es, rfl, ha, hx, ok, q⟩ := h
    refine ⟨_, PSs.nox (pss_cons (ps_if (pt_not (pt_val (pe_callB call_isiT (by rfl) (f_isinstance T) (by decide +kernel) (pa_cons (pv 0) (pa_cons (pe_tup (pa_cons (pe_bltn (v := .ty "list") (by rfl) (f_list T) boot_list rfl) (pa_cons (pe_bltn (v := .ty "tuple") (by rfl) (f_tuple T) boot_tuple rfl) pa_nil))) pa_nil)))))
       (pss_one ps_never)
       pss_nil)
       (pss_cons (ps_set (i := 1) scNeedEntries.nd rfl (.inl rfl) (pe_lst pa_nil))
       (pss_one (ps_for PassesOwn.never rfl (pi_enum (by rfl) (f_enumerate T) (pa_cons (pv 0) pa_nil)) (pg_tup rfl (pgs_cons (pg_name (i := 2) scNeedEntries.nd rfl (.inl rfl)) (pgs_cons (pg_name (i := 3) scNeedEntries.nd rfl (.inl rfl)) pgs_nil)))
       (pss_cons (ps_if (PW.pt (pw_or (pt_cmpR op_eq (pv 2) (pe_glob (by rfl) (c_MOST_WORDS T).choose_spec.1 (c_MOST_WORDS T).choose_spec.2) (nomark _)) (pw_or (pt_not (pt_val (pe_c (oIsEntry T) hr (by decide) (by rfl) (pa_cons (pv 3) pa_nil)))) (pw_or1 (pt_cmpR (kIn K rfl) (pe_ix (kIxT K rfl) (pv 3) pe_int (fun _ _ => rfl)) (pv 1) (by rfl))))))
       (pss_one ps_never)
       pss_nil)
       (pss_one (ps_set (i := 1) scNeedEntries.nd rfl (.inl rfl) (pe_op op_cat (pv 1) (pe_lst (pa_cons (pe_ix (kIxT K rfl) (pv 3) pe_int (fun _ _ => rfl)) pa_nil)))))))))), ?_⟩
    refine ⟨_, rfl, by show 2 ≤ sizeLine; rw [sizeLine_eq]; decide, fun t nt => ?_⟩
    have s0 : Same H (upd H t (.tup [.ty "list", .ty "tuple"])) := same_upd nt
    refine ⟨.ref a, t, _, .type "list", [.type "list", .type "tuple"], true, rfl, upd_same, .cons (.ty _) (.cons (.ty _) .nil), .base (.lst (s0 _ _ ha)), ?_, true, rfl, iteF ?_⟩
    · exact kitAny_cons (b := true) (kit_ty (by decide +kernel)) (fun z => by cases z) fun _ => rfl
    refine ⟨Nat.zero_le _, fun wl nw => ?_⟩
    have s1 := Same.trans s0 (same_upd (o := .lst []) nw)
    have hl : xs.length = es.length := Paired.length hx
    refine ⟨_, rfl, a, xs, rfl, .inl (.inl (s1 _ _ ha)), for_it walk_enum (fun i σ H2 => Same H H2 ∧ ∃ wl u v, σ = [some (.ref a), some (.ref wl), u, v] ∧ H2 wl = some (.lst (txs ((wds es).take i)))) ⟨s1, wl, none, none, rfl, upd_same⟩ (fun i σ H2 _ ⟨s2, _⟩ => .inl (.inl (s2 _ _ ha))) ?_ ?_⟩
    · rintro i x σ H2 H3 hi ⟨s2, wl, u, v, rfl, hw⟩ ⟨T', x1, y1, rfl, nT, rfl, e1, e2⟩
      cases (Option.some.inj e1)
      obtain ⟨e, he, ee⟩ := Paired.getL hx e2
      obtain ⟨ea, rfl, hea⟩ := ee
      have s3 : Same H2 (upd H2 T' (.tup [.int (i : Nat), .ref ea])) := same_upd nT
      have hm := List.mem_of_getElem? he
      have hi4 : i < es.length := by omega
      refine ⟨T', _, rfl, .inl (.inl upd_same), rfl, _, _, rfl, _, _, rfl, rfl, ?_⟩
      have few := ok.few
      refine ⟨_, rfl, rfl, _, rfl, iteDn (fun z => by have := V.int.inj z; omega) ?_⟩
      have ent : EntT (upd H2 T' (.tup [.int (i : Nat), .ref ea])) (.ref ea) e := ⟨ea, rfl, s3 _ _ (s2 _ _ hea)⟩
      refine ⟨_, rfl, .ref ea, e, rfl, ent, ok.all e hm, fun H4 s4 => ⟨true, rfl, iteF ?_⟩⟩
      have k4 := Same.trans s2 (Same.trans s3 s4)
      have hw4 := s4 _ _ (s3 _ _ hw)
      refine ⟨_, rfl, ea, _, _, .str (tx e.1), rfl, rfl, .inl (.inl (k4 _ _ hea)), rfl, _, rfl, wl, _, rfl, .inl (.inl (.inl hw4)), rfl, txs_flat _, _, rfl, ?_⟩
      rw [inV_txs]
      have fresh : e.1 ∉ (wds es).take i := fun z => by
        have gi : (wds es)[i]? = some e.1 := by rw [List.getElem?_map, he]; rfl
        obtain ⟨j, hj⟩ := List.mem_iff_getElem?.mp z
        rw [List.getElem?_take] at hj
        split at hj
        · rename_i hji
          have h2 := (List.getElem?_inj (by simpa using hi4) ok.nd).mp (gi.trans hj.symm)
          omega
        · cases hj
      refine iteDn fresh ?_
      refine ⟨_, rfl, _, rfl, ea, _, _, .str (tx e.1), rfl, rfl, .inl (.inl (k4 _ _ hea)), rfl, by show 1 ≤ sizeLine; rw [sizeLine_eq]; decide, fun l nl => ?_⟩
      have s5 : Same H4 (upd H4 l (.lst [.str (tx e.1)])) := same_upd nl
      have hlw : ((wds es).take i).length = i := by rw [List.length_take, List.length_map]; omega
      refine ⟨wl, l, _, _, rfl, rfl, s5 _ _ hw4, upd_same, ?_, fun p np => ?_⟩
      · show (txs _).length + 1 ≤ sizeLine
        unfold txs
        rw [List.length_map, hlw, sizeLine_eq]; omega
      · refine ⟨Same.trans k4 (Same.trans s5 (same_upd np)), p, _, _, rfl, ?_⟩
        rw [upd_same]
        have g1 : (wds es)[i]? = some e.1 := by rw [List.getElem?_map, he]; rfl
        rw [List.take_add_one, g1]
        unfold txs
        rw [List.map_append]
        rfl
    · rintro σ H2 ⟨s2, wl, u, v, rfl, hw⟩
      exact q H2 s2
theorem scSpellerInit : FnScope ["self", "entries", "slips"] ["self", "entries", "slips"] (defScope sSpellerInit) := ⟨rfl, rfl, rfl, by decide +kernel, rfl, by decide +kernel, by decide +kernel⟩
def spSpellerInit (P : Program) (w : World) (K : PySem.W.Frag) : Sp := fun vs H Q _ => ∃ (a dx el s : Addr) (xs : List V) (es : List Ent), vs = [.ref a, .ref el, .ref s] ∧ H el = some (.lst xs) ∧ EntsV H xs es ∧ EntsOk es ∧ H a = some (.ins (He.ga K "Speller") dx []) ∧
  ∀ H' e, (∀ b o, b ≠ a → H b = some o → H' b = some o) → H' a = some (.ins (He.ga K "Speller") dx [("e_entries", .ref e), ("e_slips", .ref s)]) → H' e = some (.tup xs) → Q .non H'
theorem makSpeller (T : Txt K mg) : Mak P w K mg base 5 "Speller" (He.ga K "Speller") (spSpellerInit P w K) [] := by
  obtain ⟨fd, F⟩ := dSpellerInit_fn T
  obtain ⟨ds, hv, hb⟩ := F.binds1 (ps := ["self", "entries", "slips"]) 3 1 (by intro z; cases z) rfl (fun Tt kV doc pm an cdv ct us its h1 h2 => match us, its, h1, h2 with | [_, _, _], [_], _, _ => ⟨_, rfl, rfl⟩)
  refine ⟨_, fd, ["self", "entries", "slips"], ds, mkrSpeller T, F.ok scSpellerInit (fun vs H Q E h => ?_) (fun cdv A outer s H vs Q E hr h => ?_), gSpeller T, hb, hv⟩
  · obtain ⟨a, dx, el, s, xs, es, rfl, _⟩ := h
    rfl
  · obtain ⟨a, dx, el, s, xs, es, rfl, hel, hx, ok, ha, q⟩ := h
    refine ⟨_, PSs.nox (pss_cons (ps_expr (pe_c (oNeedEntries T) hr (by decide) (by rfl) (pa_cons (pv 1) pa_nil)))
      (pss_cons (ps_fld (pv 0) (pe_callTy (kTup K rfl) (by rfl) (f_tuple T) (by decide +kernel) (pa_cons (pv 1) pa_nil)) rfl)
      (pss_one (ps_fld (pv 0) (pe_ifExp (pt_cmpR op_isN (pv 2) pe_non (nomark _)) pe_never (pv 2)) rfl)))), ?_⟩
    refine ⟨_, rfl, el, xs, es, rfl, hel, hx, ok, fun H1 s1 => ?_⟩
    refine ⟨_, rfl, el, _, rfl, .inl ⟨.inl (.inl (s1 _ _ hel)), fun e ne => ?_⟩⟩
    have s2 := Same.trans s1 (same_upd (o := .tup xs) ne)
    refine ⟨_, rfl, a, _, dx, _, rfl, s2 _ _ ha, clsSpeller T, no_e_entries T, by show 0 < 1000; omega, ?_⟩
    refine ⟨.ref s, rfl, rfl, _, rfl, iteF ⟨_, rfl, _, rfl, a, _, dx, _, rfl, upd_same, clsSpeller T, no_e_slips T, by show 1 < 1000; omega, ?_⟩⟩
    refine q _ e (fun b o nb eb => ?_) upd_same ?_
    · rw [upd_ne nb, upd_ne nb]; exact s2 _ _ eb
    · have nea : e ≠ a := fun z => by
        have h1 := s1 _ _ ha
        rw [← z, ne] at h1
        cases h1
      rw [upd_ne nea, upd_ne nea, upd_same]
theorem scListenerInit : FnScope ["self", "speller", "limit"] ["self", "speller", "limit"] (defScope sListenerInit) := ⟨rfl, rfl, rfl, by decide +kernel, rfl, by decide +kernel, by decide +kernel⟩
def spListenerInit (P : Program) (w : World) (K : PySem.W.Frag) : Sp := fun vs H Q _ => ∃ (a dx s : Addr) (i : Int), vs = [.ref a, .ref s, .int i] ∧ 0 ≤ i ∧ i ≤ 9999 ∧ H a = some (.ins (He.ga K "Listener") dx []) ∧
  ∀ H', (∀ b o, b ≠ a → H b = some o → H' b = some o) → H' a = some (.ins (He.ga K "Listener") dx [("h_speller", .ref s), ("h_limit", .int i)]) → Q .non H'
theorem makListener (T : Txt K mg) : Mak P w K mg base 2 "Listener" (He.ga K "Listener") (spListenerInit P w K) [] := by
  obtain ⟨fd, F⟩ := dListenerInit_fn T
  refine ⟨_, fd, ["self", "speller", "limit"], [], mkrListener T, F.ok scListenerInit (fun vs H Q E h => ?_) (fun cdv A outer s H vs Q E hr h => ?_), gListener T, F.bindsN (fun _ _ _ _ _ _ us hl => match us, hl with | [_, _, _], _ => rfl), .nil⟩
  · obtain ⟨a, dx, s, i, rfl, _⟩ := h
    rfl
  · obtain ⟨a, dx, s, i, rfl, h0, h9, ha, q⟩ := h
    have hu := hu_of hr
    refine ⟨_, PSs.nox (pss_cons (ps_if (PW.pt (pw_or (pt_not (pt_val (pe_c (oIsInteger T) hr (by decide) (by rfl) (pa_cons (pv 2) pa_nil)))) (pw_or1 (pt_not (pt_chain op_le op_le pe_int (pv 2) (pe_glob (by rfl) (c_MOST_LIMIT T).choose_spec.1 (c_MOST_LIMIT T).choose_spec.2))))))
       (pss_one ps_never) pss_nil)
      (pss_cons (ps_fld (pv 0) (pv 1) rfl)
      (pss_one (ps_fld (pv 0) (pv 2) rfl)))), ?_⟩
    refine ⟨_, rfl, i, rfl, true, rfl, iteF ?_⟩
    refine ⟨_, rfl, _, _, rfl, rfl, _, rfl, iteD h0 ⟨_, _, rfl, rfl, _, rfl, iteND h9 ?_⟩⟩
    refine ⟨_, rfl, _, rfl, a, _, dx, _, rfl, ha, clsListener T, no_h_speller T, by show 0 < 1000; omega, ?_⟩
    refine ⟨_, rfl, _, rfl, a, _, dx, _, rfl, upd_same, clsListener T, no_h_limit T, by show 1 < 1000; omega, ?_⟩
    exact q _ (fun b o nb e => by rw [upd_ne nb, upd_ne nb]; exact e) upd_same
end
end Mw


set_option Elab.async false
set_option linter.all false
set_option maxRecDepth 100000
set_option maxHeartbeats 4000000
set_option pp.maxSteps 600
set_option pp.deepTerms false
namespace Mw
open PySem PySem.Spec PyProof.Rows L2
open C8 (Cal pe_c Mak pe_mk)
theorem joinL_nil : ∀ ws : List (List Nat), TL.joinL [] ws = ws.flatten
  | [] => rfl
  | [x] => by simp [TL.joinL]
  | x :: y :: ws => by
    have := joinL_nil (y :: ws)
    simp only [TL.joinL, List.flatten_cons] at this ⊢
    rw [this]
    simp
theorem join_tx (ws : List (List Nat)) : Txt.join ("" : Str) (ws.map tx) = tx ws.flatten := by
  have e := SX.join_S [] ws
  rw [joinL_nil] at e
  exact e
section
variable {P : Program} {w : World} {K : PySem.W.Frag} {mg : Str → Option Value} {base : Heap}
theorem slice_mid {l : List Nat} {i j : Nat} (h1 : i ≤ j) (h2 : j ≤ l.length) : Txt.slice (tx l) (some (i : Int)) (some (j : Int)) = tx ((l.drop i).take (j - i)) := by
  have e := beq_iff_eq.mp (PyProof.Rows.slice_closes (x := tx l) (i := (i : Int)) (j := (j : Int)) ⟨by omega, by omega, by simpa using h2⟩)
  rw [e]
  have e2 : ((j : Int) - (i : Int)).toNat = j - i := by omega
  rw [e2]
  rfl
/-! ### letters_of -/
abbrev NLettersOf : List Str := ["speller", "word", "own"]
theorem scLettersOf : FnScope NLettersOf ["speller"] (defScope sLettersOf) := ⟨rfl, rfl, rfl, by decide +kernel, rfl, by decide +kernel, by decide +kernel⟩
def spLettersOf (P : Program) (w : World) (K : PySem.W.Frag) : Sp := fun vs H Q _ => ∃ (a : Addr) (p : Pr) (es : List Ent), vs = [.ref a] ∧ SpellerAt K H a p es ∧ EntsOk es ∧ ∀ H', Same H H' → Q (.str (tx (abc es))) H'
theorem ents_abc {es : List Ent} (ok : EntsOk es) : ∀ c ∈ es.flatMap (·.1), c ∈ alphaL := fun c hc => by
  obtain ⟨e, he, h⟩ := List.mem_flatMap.mp hc
  exact (ok.all e he).abc c h
theorem ents_len {es : List Ent} (h : ∀ e ∈ es, e.1.length ≤ 5) : (es.flatMap (·.1)).length ≤ 5 * es.length := by
  induction es with
  | nil => simp
  | cons e es ih =>
    rw [List.flatMap_cons, List.length_append, List.length_cons]
    have h1 := h e (List.mem_cons_self ..)
    have h2 := ih fun x hx => h x (List.mem_cons_of_mem _ hx)
    omega
theorem letters_len (l : List Nat) : (letters l).length ≤ 26 := by
  have := List.length_filter_le (fun c => decide (c ∈ l)) alphaL
  have e : alphaL.length = 26 := by decide
  unfold letters
  omega
theorem sum_lens (ws : List (List Nat)) : ((ws.map tx).map (·.length)).sum = ws.flatten.length := by
  induction ws with
  | nil => rfl
  | cons x ws ih =>
    rw [List.map_cons, List.map_cons, List.sum_cons, ih, List.flatten_cons, List.length_append, tx_len]
theorem oLettersOf (T : Txt K mg) : Cal P w K mg base 3 "letters_of" (spLettersOf P w K) [] := by
  refine calD (dLettersOf_fn T) (gLettersOf T) scLettersOf (fun vs H Q E h => ?_) (fun _ _ _ _ _ _ us hl => match us, hl with | [_], _ => rfl) (fun cdv A outer s H vs Q E hr h => ?_)
  · obtain ⟨a, p, es, rfl, _⟩ := h
    rfl
  · obtain ⟨a, p, es, rfl, ⟨dx, e, s1, vs, h1, h2, h3, h4⟩, ok, q⟩ := h
    refine ⟨_, PSs.nox (pss_one (ps_ret (kJoin K rfl pe_str (pe_callB (cr_sortedSS rfl) (by rfl) (f_sorted T) (by decide +kernel) (pa_cons (pe_callTy (cr_setS rfl) (by rfl) (f_set T) (by decide +kernel) (pa_cons (kJoin K rfl pe_str (pe_lc (own := [("word", 1), ("own", 2)]) (g := gTup K 2 (gCons (gName 1) (gCons (gName 2) gNil))) rfl scLettersOf.nd (kPiT K rfl (pe_pEntries T hr (by decide) (pv 0))) (blkOk_by (own := [("word", 1), ("own", 2)]) (N := NLettersOf) (sc := defScope sLettersOf) (by decide +kernel)) (fun _ _ _ _ _ => (pg_tup rfl (pgs_cons (pg_name (i := 1) scLettersOf.nd rfl (.inl rfl)) (pgs_cons (pg_name (i := 2) scLettersOf.nd rfl (.inl rfl)) pgs_nil)))) (fun _ _ _ _ _ => pts_nil) (fun _ _ _ _ _ => (pv 1)))) pa_nil)) pa_nil))))), ?_⟩
    refine ⟨⟨_, rfl⟩, ⟨_, rfl⟩, .ref a, rfl, gp h1 rfl ?_⟩
    have hl : vs.length = es.length := Paired.length h3
    refine ⟨e, rfl, ⟨_, .inl (.inl h2)⟩, fun D hD => lc_map (walk_tup (xs := vs)) noA (fun i ys H => ys = txs ((wds es).take i)) hD id (by have := ok.few; omega) (fun i ys H _ k _ => .inl (.inl (k.im.tup h2))) rfl ?_ ?_⟩
    · rintro i x H1 H2 ys hi k rfl ⟨rfl, hy⟩ eD push
      obtain ⟨en, he, ea, rfl, hea⟩ := Paired.getL h3 hy
      refine ⟨ea, _, rfl, .inl (.inl (k.im.tup hea)), rfl, _, _, rfl, _, _, rfl, rfl, rfl, _, rfl, push _ _ Kp.refl ?_⟩
      have g1 : (wds es)[i]? = some en.1 := by rw [List.getElem?_map, he]; rfl
      rw [List.take_add_one, g1]
      unfold txs
      rw [List.map_append]
      rfl
    · intro H1 ys k eD t
      subst t
      rw [List.take_of_length_le (by rw [List.length_map]; omega)] at eD
      have hf : (wds es).flatten = es.flatMap (·.1) := by rw [List.flatMap_def]
      have hl5 := ents_len (es := es) fun e he => (ok.all e he).hi
      have few := ok.few
      refine ⟨_, D, (wds es).map tx, rfl, rfl, .inl (.inl (.inl (by rw [List.map_map]; exact eD))), by rw [sum_lens, hf]; show _ + _ * 0 ≤ _; omega, ?_⟩
      rw [join_tx, hf]
      refine ⟨_, rfl, by omega, ents_abc ok, fun p' n np => ?_⟩
      refine ⟨p', _, n, rfl, upd_same, ents_abc ok, fun p2 np2 => ?_⟩
      have hj : (letters (es.flatMap (·.1))).flatMap (fun c => [c]) = abc es := by unfold abc; simp
      refine ⟨_, p2, ((letters (es.flatMap (·.1))).map fun c => [c]).map tx, rfl, rfl, .inl (.inl (.inl ?_)), ?_, ?_⟩
      · rw [upd_same, List.map_map, List.map_map]
        rfl
      · have h26 := letters_len (es.flatMap (·.1))
        rw [sum_lens, ← List.flatMap_def, hj]
        show (letters (es.flatMap (·.1))).length + _ * 0 ≤ _
        omega
      · rw [join_tx, ← List.flatMap_def, hj]
        exact q _ (Same.trans (Same.trans k.toSame (same_upd np)) (same_upd np2))
/-! ### rows and states -/
def TupI (H : Hp) (v : V) (ns : List Int) : Prop := ∃ a, v = .ref a ∧ H a = some (.tup (ns.map V.int))
def RowT (H : Hp) (v : V) (r : List (List Int)) : Prop := ∃ a vs, v = .ref a ∧ H a = some (.tup vs) ∧ Paired (TupI H) vs r
def MemT (H : Hp) (v u : V) : Option (List (List Int) × Nat) → Prop
  | none => (∃ b, v = .ref b ∧ H b = some (.tup [])) ∧ u = .str (tx [])
  | some (h, c) => RowT H v h ∧ u = .str (tx [c])
def StT (H : Hp) (v : V) (s : Sta) : Prop := ∃ a r m u, v = .ref a ∧ H a = some (.tup [r, m, u]) ∧ RowT H r s.row ∧ MemT H m u s.mem
theorem TupI.im {H H' : Hp} {v : V} {ns : List Int} (h : TupI H v ns) (k : Imm H H') : TupI H' v ns := by
  obtain ⟨a, e1, e2⟩ := h
  exact ⟨a, e1, k.tup e2⟩
theorem RowT.im {H H' : Hp} {v : V} {r : List (List Int)} (h : RowT H v r) (k : Imm H H') : RowT H' v r := by
  obtain ⟨a, vs, e1, e2, e3⟩ := h
  exact ⟨a, vs, e1, k.tup e2, Paired.mapP e3 fun _ _ q => q.im k⟩
theorem MemT.im {H H' : Hp} {v u : V} {m : Option (List (List Int) × Nat)} (h : MemT H v u m) (k : Imm H H') : MemT H' v u m := by
  cases m with
  | none =>
    obtain ⟨⟨b, e1, e2⟩, e3⟩ := h
    exact ⟨⟨b, e1, k.tup e2⟩, e3⟩
  | some q =>
    obtain ⟨h1, h2⟩ := h
    exact ⟨h1.im k, h2⟩
theorem StT.im {H H' : Hp} {v : V} {s : Sta} (h : StT H v s) (k : Imm H H') : StT H' v s := by
  obtain ⟨a, r, m, u, e1, e2, e3, e4⟩ := h
  exact ⟨a, r, m, u, e1, k.tup e2, e3.im k, e4.im k⟩
theorem getI {ns : List Int} {j : Nat} (h : j < ns.length) : atI (ns.map V.int) (j : Int) = some (.int (ns.getD j 0)) := by
  refine atI_nat ?_
  rw [List.getElem?_map, List.getElem?_eq_getElem h, List.getD_eq_getElem?_getD, List.getElem?_eq_getElem h]
  rfl
theorem getI' {ns : List Int} {j : Nat} {i : Int} (e : i = (j : Int)) (h : j < ns.length) : atI (ns.map V.int) i = some (.int (ns.getD j 0)) := by
  rw [e]; exact getI h
theorem eqv_int_nil (ns : List Int) : PyData.eqv (dInts ns) (dInts []) = ns.isEmpty := by
  have h := eqv_nil (ns.map PyData.int)
  rw [List.isEmpty_map] at h
  exact h
theorem slSw {p : Pr} : List.lookup ("z_swapped" : Str) (slFs p) = some (optI p.sw) := rfl
/-- the tuple ahead and what is typed -/
def EldT (H : Hp) (aa : Addr) (ty : List Nat) (p : Pr) (w : List Nat) (c : Nat) : Option (List Int × Nat) → Prop
  | none => H aa = some (.tup []) ∧ ty = [c]
  | some (e, d) => H aa = some (.tup (e.map V.int)) ∧ e.length = w.length + 1 ∧ ty = [d, c] ∧ p.sw.isSome = true
/-! ### next_worths -/
abbrev NNextWorths : List Str := ["slips", "word", "here", "ahead", "typed", "stay", "move", "found", "j", "some"]
theorem scNextWorths : FnScope NNextWorths ["slips", "word", "here", "ahead", "typed", "stay", "move"] (defScope sNextWorths) := ⟨rfl, rfl, rfl, by decide +kernel, rfl, by decide +kernel, by decide +kernel⟩
def spNextWorths (P : Program) (w : World) (K : PySem.W.Frag) : Sp := fun vs H Q _ => ∃ (sl ha aa : Addr) (p : Pr) (w : List Nat) (ns : List Int) (ty : List Nat) (eld : Option (List Int × Nat)) (c : Nat),
  vs = [.ref sl, .str (tx w), .ref ha, .ref aa, .str (tx ty), .int p.x, .int 0] ∧ SlipsAt K H sl p ∧ 1 ≤ w.length ∧ w.length ≤ 5 ∧ H ha = some (.tup (ns.map V.int)) ∧ ns.length = w.length + 1 ∧ EldT H aa ty p w c eld ∧
  ∀ H' r, Same H H' → H' r = some (.tup ((nextW p w ns eld c).map V.int)) → Q (.ref r) H'
theorem oNextWorths (T : Txt K mg) : Cal P w K mg base 3 "next_worths" (spNextWorths P w K) [] := by
  refine calD (dNextWorths_fn T) (gNextWorths T) scNextWorths (fun vs H Q E h => ?_) (fun _ _ _ _ _ _ us hl => match us, hl with | [_, _, _, _, _, _, _], _ => rfl) (fun cdv A outer s H vs Q E hr h => ?_)
  · obtain ⟨sl, ha, aa, p, w, ns, ty, eld, c, rfl, _⟩ := h
    rfl
  · obtain ⟨sl, ha, aa, p, w, ns, ty, eld, c, rfl, ⟨dx, hsl⟩, w1, w5, hha, hns, hel, q⟩ := h
    refine ⟨_, PSs.nox (pss_cons (ps_set (i := 7) scNextWorths.nd rfl (.inl rfl) (pe_lst (pa_cons (pe_ix (kIxT K rfl) (pv 2) pe_int (fun _ _ => rfl)) pa_nil)))
       (pss_cons (ps_for PassesOwn.never rfl (pi_range2 (by rfl) (f_range T) (pa_cons pe_int (pa_cons (pe_op op_add (pe_callB call_len_str (by rfl) (f_len T) (by decide +kernel) (pa_cons (pv 1) pa_nil)) pe_int) pa_nil))) (pg_name (i := 8) scNextWorths.nd rfl (.inl rfl))
       (pss_cons (ps_set (i := 9) scNextWorths.nd rfl (.inl rfl) (pe_lst (pa_cons (pe_op op_add (pe_ix (kIxT K rfl) (pv 2) (pv 8) (fun _ _ => rfl)) (pv 5)) (pa_cons (pe_op op_add (pe_ix (kIxL K rfl) (pv 7) (pe_op op_sub (pv 8) pe_int) (fun _ _ => rfl)) (pe_pMissing T hr (by decide) (pv 0))) pa_nil))))
       (pss_cons (ps_expr (pe_bm PySem.F.plainAttrs_list PySem.F.slot_list_append PySem.F.type_list_append mt_append (pv 9) (pa_cons (pe_op op_add (pe_op op_add (pe_ix (kIxT K rfl) (pv 2) (pe_op op_sub (pv 8) pe_int) (fun _ _ => rfl)) (pv 6)) (pe_cutE (pe_ifExp (pt_cmpR op_eq (pe_ix ix_str (pv 1) (pe_op op_sub (pv 8) pe_int) (fun _ _ => rfl)) (pe_ix ix_str (pv 4) (pe_un un_neg pe_int) (fun _ _ => rfl)) (nomark _)) pe_int (pe_pWrong T hr (by decide) (pv 0))))) pa_nil)))
       (C8.pss_cut (ps_if (PW.pt (pw_and (pt_cmpR op_gt (pv 8) pe_int (nomark _)) (pw_and (pt_cmpR (kNeD K rfl hr.units) (pv 3) (pe_tup pa_nil) (nomark _)) (pw_and (pt_cmpR op_ne (pe_ix ix_str (pv 4) pe_int (fun _ _ => rfl)) (pe_ix ix_str (pv 4) (pe_un un_neg pe_int) (fun _ _ => rfl)) (nomark _)) (pw_and1 (pt_cmpR op_eq (pe_slice C8.sl_txt (pv 1) (po_some (pe_op op_sub (pv 8) pe_int)) (po_some (pv 8))) (pe_revS (pv 4)) (nomark _)))))))
       (pss_one (ps_expr (pe_bm PySem.F.plainAttrs_list PySem.F.slot_list_append PySem.F.type_list_append mt_append (pv 9) (pa_cons (pe_op op_add (pe_op op_add (pe_ix (kIxT K rfl) (pv 3) (pe_op op_sub (pv 8) pe_int) (fun _ _ => rfl)) (pe_pSwapped T hr (by decide) (pv 0))) (pe_op op_mul pe_int (pv 6))) pa_nil))))
       pss_nil)
       (pss_one (ps_expr (pe_bm PySem.F.plainAttrs_list PySem.F.slot_list_append PySem.F.type_list_append mt_append (pv 7) (pa_cons (pe_callB (kMin K rfl rfl) (by rfl) (f_min T) (by decide +kernel) (pa_cons (pv 9) pa_nil)) pa_nil))))))))
       (pss_one (ps_ret (pe_callTy (kTup K rfl) (by rfl) (f_tuple T) (by decide +kernel) (pa_cons (pv 7) pa_nil)))))), ?_⟩
    have hsz : sizeLine = 16777216 := sizeLine_eq
    have htl := tx_len w
    have hty := tx_len ty
    refine ⟨_, rfl, ha, _, _, _, rfl, rfl, .inl (.inl hha), getI (j := 0) (by omega), by show 1 ≤ sizeLine; omega, fun f nf => ?_⟩
    refine ⟨_, rfl, _, rfl, by omega, _, _, rfl, rfl, 1, _, rfl, ⟨by omega, by omega, by omega, by rw [tx_len]; omega⟩, ?_⟩
    have hn : ((((tx w).length : Nat) : Int) + 1 - 1).toNat = w.length := by rw [tx_len]; omega
    refine for_range (lo := 1) (n := ((((tx w).length : Nat) : Int) + 1 - 1).toNat) (fun i σ H2 => ∃ u v, σ = [some (.ref sl), some (.str (tx w)), some (.ref ha), some (.ref aa), some (.str (tx ty)), some (.int p.x), some (.int 0), some (.ref f), u, v] ∧ Same H H2 ∧ H2 f = some (.lst (((List.range (i + 1)).map (cell p w ns eld c)).map V.int))) ⟨none, none, rfl, same_upd nf, upd_same⟩ ?_ ?_
    · rintro i σ H2 hi ⟨u, v, rfl, s2, hf⟩
      rw [hn] at hi
      have hsl2 := s2 _ _ hsl
      have hha2 := s2 _ _ hha
      have nff : ∀ {b o}, H b = some o → b ≠ f := fun e => ne_of_none e nf
      -- some = [..]
      refine ⟨_, rfl, _, rfl, ha, _, _, _, rfl, rfl, .inl (.inl hha2), getI' (j := i + 1) (by omega) (by omega), _, rfl, _, _, rfl, rfl, ?_⟩
      refine ⟨_, rfl, _, rfl, _, _, rfl, rfl, f, _, _, _, rfl, rfl, .inl (.inl hf), getI' (j := i) (by omega) (by rw [List.length_map, List.length_range]; omega), .ref sl, rfl, gp hsl2 rfl ⟨_, _, rfl, rfl, by show 2 ≤ sizeLine; omega, fun l nl => ?_⟩⟩
      have hci : ((List.range (i + 1)).map (cell p w ns eld c)).getD i 0 = cell p w ns eld c i := by
        rw [List.getD_eq_getElem?_getD, List.getElem?_map, List.getElem?_range (by omega)]
        rfl
      rw [hci]
      have s3 := Same.trans s2 (same_upd (o := .lst [.int (ns.getD (i + 1) 0 + p.x), .int (cell p w ns eld c i + p.y)]) nl)
      have hf3 : (upd H2 l (.lst [.int (ns.getD (i + 1) 0 + p.x), .int (cell p w ns eld c i + p.y)])) f = _ := (upd_ne (ne_of_none hf nl)).trans hf
      have nfl : f ≠ l := ne_of_none hf nl
      -- some.append(..)
      have hl3 : (upd H2 l (.lst [.int (ns.getD (i + 1) 0 + p.x), .int (cell p w ns eld c i + p.y)])) l = some (.lst [.int (ns.getD (i + 1) 0 + p.x), .int (cell p w ns eld c i + p.y)]) := upd_same
      generalize (upd H2 l (.lst [.int (ns.getD (i + 1) 0 + p.x), .int (cell p w ns eld c i + p.y)])) = H3 at s3 hf3 hl3 ⊢
      have tyl : atI ty (-1) = some c := by
        cases eld with
        | none => rw [hel.2]; exact atI_last [] c
        | some qq => rw [hel.2.2.1]; exact atI_last [qq.2] c
      have ty5 : ty.length ≤ 2 := by
        cases eld with
        | none => rw [hel.2]; show 1 ≤ 2; omega
        | some qq => rw [hel.2.2.1]; show 2 ≤ 2; omega
      have wi : ∀ (j : Nat) (k : Int), k = (j : Int) → j < w.length → atI w k = some (w.getD j 0) := fun j k e h => by
        rw [e]
        refine atI_nat ?_
        rw [List.getElem?_eq_getElem h, List.getD_eq_getElem?_getD, List.getElem?_eq_getElem h]
        rfl
      refine ⟨_, rfl, .inl ⟨rfl, _, .inl (.inl hl3)⟩, _, rfl, _, rfl, _, _, rfl, rfl, ha, _, _, _, rfl, rfl, .inl (.inl (s3 _ _ hha)), getI' (j := i) (by omega) (by omega), _, rfl, _, _, rfl, rfl, ?_⟩
      refine ⟨fun v H' => v = .int (if w.getD i 0 = c then 0 else p.wr) ∧ H3 = H', ?_, ?_⟩
      · refine ⟨_, rfl, _, rfl, _, _, rfl, rfl, tx w, _, _, rfl, rfl, by omega, wi i _ (by omega) (by omega), _, rfl, _, rfl, tx ty, _, c, rfl, rfl, by omega, tyl, rfl, _, rfl, ite2 (fun e => ?_) (fun e => ?_)⟩
        · have e2 : w.getD i 0 = c := by
            have e3 : tx [w.getD i 0] = tx [c] := V.str.inj (of_decide_eq_true e)
            exact List.head_eq_of_cons_eq (tx_inj e3)
          exact ⟨by rw [if_pos e2], rfl⟩
        · have e2 : ¬ w.getD i 0 = c := fun z => e (decide_eq_true (by rw [z]))
          exact ⟨_, rfl, gp (s3 _ _ hsl) rfl ⟨by rw [if_neg e2], rfl⟩⟩
      rintro _ _ ⟨rfl, rfl⟩
      refine ⟨_, _, rfl, rfl, l, _, _, rfl, rfl, hl3, by show 2 < sizeLine; omega, ?_⟩
      -- if ..
      have s4 : Same H (upd H3 l (.lst ([.int (ns.getD (i + 1) 0 + p.x), .int (cell p w ns eld c i + p.y)] ++ [.int (ns.getD i 0 + 0 + (if w.getD i 0 = c then 0 else p.wr))]))) := fun b o e => by
        have nb : b ≠ l := fun z => by
          have h1 := s2 _ _ e
          rw [z, nl] at h1
          cases h1
        rw [upd_ne nb]; exact s3 _ _ e
      have hf4 : (upd H3 l (.lst ([.int (ns.getD (i + 1) 0 + p.x), .int (cell p w ns eld c i + p.y)] ++ [.int (ns.getD i 0 + 0 + (if w.getD i 0 = c then 0 else p.wr))]))) f = _ := (upd_ne nfl).trans hf3
      have hl4 : (upd H3 l (.lst ([.int (ns.getD (i + 1) 0 + p.x), .int (cell p w ns eld c i + p.y)] ++ [.int (ns.getD i 0 + 0 + (if w.getD i 0 = c then 0 else p.wr))]))) l = some (.lst ([ns.getD (i + 1) 0 + p.x, cell p w ns eld c i + p.y, ns.getD i 0 + (if w.getD i 0 = c then 0 else p.wr)].map V.int)) := by
        rw [upd_same, Int.add_zero]
        rfl
      generalize (upd H3 l (.lst ([.int (ns.getD (i + 1) 0 + p.x), .int (cell p w ns eld c i + p.y)] ++ [.int (ns.getD i 0 + 0 + (if w.getD i 0 = c then 0 else p.wr))]))) = H4 at s4 hf4 hl4 ⊢
      refine ⟨fun σ' H' => σ' = [some (.ref sl), some (.str (tx w)), some (.ref ha), some (.ref aa), some (.str (tx ty)), some (.int p.x), some (.int 0), some (.ref f), some (.int (1 + (i : Int))), some (.ref l)] ∧ Same H H' ∧ H' f = some (.lst (((List.range (i + 1)).map (cell p w ns eld c)).map V.int)) ∧
        H' l = some (.lst (([ns.getD (i + 1) 0 + p.x, cell p w ns eld c i + p.y, ns.getD i 0 + (if w.getD i 0 = c then 0 else p.wr)] ++ swaps p w eld c i).map V.int)), ?_, ?_⟩
      · have noswap : swaps p w eld c i = [] → (fun σ' H' => σ' = [some (.ref sl), some (.str (tx w)), some (.ref ha), some (.ref aa), some (.str (tx ty)), some (.int p.x), some (.int 0), some (.ref f), some (.int (1 + (i : Int))), some (.ref l)] ∧ Same H H' ∧ H' f = some (.lst (((List.range (i + 1)).map (cell p w ns eld c)).map V.int)) ∧
          H' l = some (.lst (([ns.getD (i + 1) 0 + p.x, cell p w ns eld c i + p.y, ns.getD i 0 + (if w.getD i 0 = c then 0 else p.wr)] ++ swaps p w eld c i).map V.int)) : L2.St → Hp → Prop) [some (.ref sl), some (.str (tx w)), some (.ref ha), some (.ref aa), some (.str (tx ty)), some (.int p.x), some (.int 0), some (.ref f), some (.int (1 + (i : Int))), some (.ref l)] H4 := fun e => ⟨rfl, s4, hf4, by rw [e, List.append_nil]; exact hl4⟩
        refine ⟨_, rfl, _, _, rfl, rfl, _, rfl, ite2 (fun e0 => ?_) (fun e0 => iteF (noswap ?_))⟩
        · have i1 : 1 ≤ i := by have := of_decide_eq_true e0; omega
          cases eld with
          | none =>
            refine ⟨_, rfl, Nat.zero_le _, fun t nt => ?_⟩
            refine ⟨dInts [], dInts [], dp_int (show _ = some (HO.tup []) from (upd_ne (ne_of_none (s4 _ _ hel.1) nt)).trans (s4 _ _ hel.1)), dp_int upd_same, shaped_ints _, shaped_ints _, false, by rw [eqv_int_nil]; rfl, iteF (iteF ?_)⟩
            exact ⟨rfl, Same.trans s4 (same_upd nt), (upd_ne (ne_of_none hf4 nt)).trans hf4, by rw [upd_ne (ne_of_none hl4 nt)]; exact hl4⟩
          | some qq =>
            obtain ⟨e, d⟩ := qq
            obtain ⟨he, hel2, hty2, hsw⟩ := hel
            subst hty2
            refine ⟨_, rfl, Nat.zero_le _, fun t nt => ?_⟩
            have s5 := Same.trans s4 (same_upd (o := .tup []) nt)
            have hf5 : (upd H4 t (.tup [])) f = _ := (upd_ne (ne_of_none hf4 nt)).trans hf4
            have hl5 : (upd H4 t (.tup [])) l = _ := (upd_ne (ne_of_none hl4 nt)).trans hl4
            have nt5 : (upd H4 t (.tup [])) t = some (.tup ([].map V.int)) := upd_same
            generalize (upd H4 t (.tup [])) = H5 at s5 hf5 hl5 nt5 ⊢
            have ene : e.isEmpty = false := by
              cases e with
              | nil => simp at hel2
              | cons x r => rfl
            refine ⟨dInts e, dInts [], dp_int (s5 _ _ he), dp_int nt5, shaped_ints _, shaped_ints _, true, by rw [eqv_int_nil, ene]; rfl, iteT ?_⟩
            refine ⟨_, rfl, tx [d, c], _, d, rfl, rfl, by rw [tx_len]; show 2 ≤ sizeLine; omega, rfl, _, rfl, _, rfl, tx [d, c], _, c, rfl, rfl, by rw [tx_len]; show 2 ≤ sizeLine; omega, tyl, rfl, _, rfl, ite2 (fun e1 => ?_) (fun e1 => iteF ?_)⟩
            · have dc : d ≠ c := fun z => by
                subst z
                simp at e1
              have hsl1 : Txt.slice (tx w) (some (1 + (i : Int) - 2)) (some (1 + (i : Int))) = tx [w.getD (i - 1) 0, w.getD i 0] := by
                rw [show (1 + (i : Int) - 2) = ((i - 1 : Nat) : Int) by omega, show (1 + (i : Int)) = ((i + 1 : Nat) : Int) by omega, slice_mid (by omega) (by omega)]
                congr 1
                rw [show i + 1 - (i - 1) = 2 by omega, List.drop_eq_getElem_cons (show i - 1 < w.length by omega), List.drop_eq_getElem_cons (show i - 1 + 1 < w.length by omega)]
                have e1 : w.getD (i - 1) 0 = w[i - 1] := by rw [List.getD_eq_getElem?_getD, List.getElem?_eq_getElem (by omega)]; rfl
                have e2 : w.getD i 0 = w[i - 1 + 1] := by
                  rw [List.getD_eq_getElem?_getD, List.getElem?_eq_getElem (by omega)]
                  show w[i] = _
                  congr 1
                  omega
                rw [e1, e2]
                rfl
              refine ⟨_, rfl, _, rfl, _, _, rfl, rfl, _, rfl, _, rfl, _, rfl, tx w, rfl, by omega, _, rfl, [d, c], rfl, by show 2 ≤ 1000; omega, rfl, _, rfl, ?_⟩
              rw [hsl1]
              have hrev : tx [d, c].reverse = tx [c, d] := rfl
              rw [hrev]
              refine ite2 (fun e2 => ?_) (fun e2 => ?_)
              · have e3 : tx [w.getD (i - 1) 0, w.getD i 0] = tx [c, d] := V.str.inj (of_decide_eq_true e2)
                have e4 := tx_inj e3
                injection e4 with e5 e6
                injection e6 with e7
                obtain ⟨sw, hsw2⟩ := Option.isSome_iff_exists.mp hsw
                have hswv : swaps p w (some (e, d)) c i = [e.getD (i - 1) 0 + sw] := by
                  unfold swaps
                  rw [hsw2]
                  exact if_pos ⟨i1, dc, e5, e7⟩
                refine ⟨_, rfl, .inl ⟨rfl, _, .inl (.inl hl5)⟩, _, rfl, _, rfl, _, _, rfl, rfl, aa, _, _, _, rfl, rfl, .inl (.inl (s5 _ _ he)), getI' (j := i - 1) (by omega) (by omega), .ref sl, rfl, gp (v := .int sw) (s5 _ _ hsl) (by rw [slSw, hsw2]; rfl) ?_⟩
                refine ⟨_, _, rfl, rfl, _, rfl, _, _, rfl, rfl, .inl ⟨by omega, by omega⟩, _, _, rfl, rfl, l, _, _, rfl, rfl, hl5, by show 3 < sizeLine; omega, ?_⟩
                refine ⟨rfl, fun b o eb => ?_, (upd_ne nfl).trans hf5, ?_⟩
                · have nb : b ≠ l := fun z => by
                    have h1 := s2 _ _ eb
                    rw [z, nl] at h1
                    cases h1
                  rw [upd_ne nb]; exact s5 _ _ eb
                · rw [upd_same, hswv]
                  have e0 : e.getD (i - 1) 0 + sw + 2 * 0 = e.getD (i - 1) 0 + sw := by omega
                  show some (HO.lst (_ ++ [V.int (e.getD (i - 1) 0 + sw + 2 * 0)])) = _
                  rw [e0]
                  rfl
              · refine ⟨rfl, s5, hf5, ?_⟩
                have hswv : swaps p w (some (e, d)) c i = [] := by
                  unfold swaps
                  split
                  · exact if_neg fun z => e2 (decide_eq_true (by rename_i he2 _; cases he2; rw [z.2.2.1, z.2.2.2]))
                  · rfl
                rw [hswv, List.append_nil]
                exact hl5
            · have dc : d = c := by
                by_cases q2 : d = c
                · exact q2
                · exact absurd (by simpa using q2) e1
              refine ⟨rfl, s5, hf5, ?_⟩
              have hswv : swaps p w (some (e, d)) c i = [] := by
                unfold swaps
                split
                · exact if_neg fun z => z.2.1 (by rename_i he2 _; cases he2; exact dc)
                · rfl
              rw [hswv, List.append_nil]
              exact hl5
        · have i0 : i = 0 := by
            have h1 : ¬ ((1 : Int) + (i : Int) > 1) := fun z => e0 (decide_eq_true z)
            omega
          subst i0
          unfold swaps
          split
          · rw [if_neg (fun z => by omega)]
          · rfl
      rintro _ H5 ⟨rfl, s5, hf5, hl5⟩
      refine ⟨_, rfl, .inl ⟨rfl, _, .inl (.inl hf5)⟩, _, rfl, l, _, rfl, .inl (.inl hl5), by simp, fun m hm hle => ?_⟩
      have em : m = cell p w ns eld c (i + 1) := minL_eq hm hle
      refine ⟨f, _, _, rfl, rfl, hf5, by simp; omega, ?_⟩
      refine ⟨_, _, rfl, fun b o eb => ?_, ?_⟩
      · rw [upd_ne (nff eb)]; exact s5 _ _ eb
      · rw [upd_same, em, List.range_succ (n := i + 1), List.map_append, List.map_append]
        rfl
    · rintro σ H2 ⟨u, v, rfl, s2, hf⟩
      rw [hn] at hf
      refine ⟨_, rfl, f, _, rfl, .inl ⟨.inl (.inl hf), fun r nr => ?_⟩⟩
      exact q _ r (Same.trans s2 (same_upd nr)) upd_same
end
end Mw


set_option Elab.async false
set_option linter.all false
set_option maxRecDepth 100000
set_option maxHeartbeats 4000000
set_option pp.maxSteps 600
set_option pp.deepTerms false
namespace Mw
open PySem PySem.Spec PyProof.Rows L2
open C8 (Cal pe_c Mak pe_mk)
section
variable {P : Program} {w : World} {K : PySem.W.Frag} {mg : Str → Option Value} {base : Heap}
theorem RowT.dp {H : Hp} {v : V} {r : List (List Int)} (h : RowT H v r) : Dp K H v (dRows r) := by
  obtain ⟨a, vs, rfl, e, p⟩ := h
  refine .tup (.inl (.inl e)) ?_
  clear e
  induction p with
  | nil => exact .nil
  | cons h t ih =>
    obtain ⟨b, rfl, eb⟩ := h
    exact .cons (dp_int eb) ih
theorem eqv_rows_nil (r : List (List Int)) : PyData.eqv (dRows r) (.tuple []) = r.isEmpty := by
  have h := eqv_nil (r.map dInts)
  rw [List.isEmpty_map] at h
  exact h
theorem dp_nil {H : Hp} {a : Addr} (h : H a = some (.tup [])) : Dp K H (.ref a) (.tuple []) := .tup (.inl (.inl h)) .nil
/-! ### stepped -/
abbrev NStepped : List Str := ["speller", "stand", "letter", "stay", "move", "here", "ahead", "last", "found", "at", "word", "own", "elder"]
theorem scStepped : FnScope NStepped ["speller", "stand", "letter", "stay", "move"] (defScope sStepped) := ⟨rfl, rfl, rfl, by decide +kernel, rfl, by decide +kernel, by decide +kernel⟩
def spStepped (P : Program) (w : World) (K : PySem.W.Frag) : Sp := fun vs H Q _ => ∃ (a : Addr) (v : V) (p : Pr) (es : List Ent) (s : Sta) (c : Nat), vs = [.ref a, v, .str (tx [c]), .int p.x, .int 0] ∧ SpellerAt K H a p es ∧ EntsOk es ∧ StT H v s ∧ StaOk p es s ∧
  ∀ H' r, Same H H' → StT H' r (stepM p es s c) → Q r H'
theorem oStepped (T : Txt K mg) : Cal P w K mg base 4 "stepped" (spStepped P w K) [] := by
  refine calD (dStepped_fn T) (gStepped T) scStepped (fun vs H Q E h => ?_) (fun _ _ _ _ _ _ us hl => match us, hl with | [_, _, _, _, _], _ => rfl) (fun cdv A outer s H vs Q E hr h => ?_)
  · obtain ⟨a, v, p, es, s', c, rfl, _⟩ := h
    rfl
  · obtain ⟨a, v, p, es, st, c, rfl, hsp, ok, ⟨b, r, m, u, rfl, hb, hr1, hm⟩, sok, q⟩ := h
    obtain ⟨dx, e, s1, vs, h1, h2, h3, h4⟩ := id hsp
    refine ⟨_, PSs.nox (pss_cons (ps_asg (pv 1) (pg_tup rfl (pgs_cons (pg_name (i := 5) scStepped.nd rfl (.inl rfl)) (pgs_cons (pg_name (i := 6) scStepped.nd rfl (.inl rfl)) (pgs_cons (pg_name (i := 7) scStepped.nd rfl (.inl rfl)) pgs_nil)))))
       (pss_cons (ps_set (i := 8) scStepped.nd rfl (.inl rfl) (pe_lst pa_nil))
       (pss_cons (ps_for PassesOwn.never rfl (pi_enumT (by rfl) (f_enumerate T) (pa_cons (pe_pEntries T hr (by decide) (pv 0)) pa_nil)) (pg_tup rfl (pgs_cons (pg_name (i := 9) scStepped.nd rfl (.inl rfl)) (pgs_cons (pg_tup rfl (pgs_cons (pg_name (i := 10) scStepped.nd rfl (.inl rfl)) (pgs_cons (pg_name (i := 11) scStepped.nd rfl (.inl rfl)) pgs_nil))) pgs_nil)))
       (pss_cons (ps_set (i := 12) scStepped.nd rfl (.inl rfl) (pe_cutE (pe_ifExp (pt_cmpR (kNeD K rfl hr.units) (pv 6) (pe_tup pa_nil) (nomark _)) (pe_ix (kIxT K rfl) (pv 6) (pv 9) (fun _ _ => rfl)) (pe_tup pa_nil))))
       (pss_one (ps_expr (pe_bm PySem.F.plainAttrs_list PySem.F.slot_list_append PySem.F.type_list_append mt_append (pv 8) (pa_cons (pe_c (oNextWorths T) hr (by decide) (by rfl) (pa_cons (pe_pSlips T hr (by decide) (pv 0)) (pa_cons (pv 10) (pa_cons (pe_ix (kIxT K rfl) (pv 5) (pv 9) (fun _ _ => rfl)) (pa_cons (pv 12) (pa_cons (pe_op op_add_str (pv 7) (pv 2)) (pa_cons (pv 3) (pa_cons (pv 4) pa_nil)))))))) pa_nil))))))
       (pss_cons (ps_if (PW.pt (pw_or (pt_cmpR op_isN (pe_pSwapped T hr (by decide) (pe_pSlips T hr (by decide) (pv 0))) pe_non (nomark _)) (pw_or1 (pt_cmpR op_notIn_sign (pv 2) (pe_c (oLettersOf T) hr (by decide) (by rfl) (pa_cons (pv 0) pa_nil)) (by rfl)))))
       (pss_one (ps_ret (pe_tup (pa_cons (pe_callTy (kTup K rfl) (by rfl) (f_tuple T) (by decide +kernel) (pa_cons (pv 8) pa_nil)) (pa_cons (pe_tup pa_nil) (pa_cons pe_str pa_nil))))))
       pss_nil)
       (pss_one (ps_ret (pe_tup (pa_cons (pe_callTy (kTup K rfl) (by rfl) (f_tuple T) (by decide +kernel) (pa_cons (pv 8) pa_nil)) (pa_cons (pv 5) (pa_cons (pv 2) pa_nil)))))))))), ?_⟩
    have hsz : sizeLine = 16777216 := sizeLine_eq
    have few := ok.few
    have hl : vs.length = es.length := Paired.length h3
    refine ⟨_, rfl, b, _, rfl, .inl (.inl hb), rfl, _, _, rfl, _, _, rfl, _, _, rfl, rfl, ?_⟩
    refine ⟨Nat.zero_le _, fun f nf => ?_⟩
    have s0 : Same H (upd H f (.lst [])) := same_upd nf
    refine ⟨_, rfl, gp (s0 _ _ h1) rfl ?_⟩
    refine ⟨e, vs, rfl, .inl (.inl (s0 _ _ h2)), for_it walk_G (fun i σ H2 => Same H H2 ∧ ∃ x1 x2 x3 x4, σ = [some (.ref a), some (.ref b), some (.str (tx [c])), some (.int p.x), some (.int 0), some r, some m, some u, some (.ref f), x1, x2, x3, x4] ∧ ∃ ys, H2 f = some (.lst ys) ∧ Paired (TupI H2) ys ((stepM p es st c).row.take i)) ⟨s0, none, none, none, none, rfl, [], upd_same, .nil⟩ (fun i σ H2 _ ⟨s2, _⟩ => .inl (.inl (s2 _ _ h2))) ?_ ?_⟩
    · rintro i x σ H2 H3 hi ⟨s2, x1, x2, x3, x4, rfl, ys, hf, hys⟩ ⟨T', y1, y2, rfl, nT, rfl, e1, e2⟩
      cases (Option.some.inj e1)
      obtain ⟨en, he, ea, rfl, hea⟩ := Paired.getL h3 e2
      have hes : i < es.length := by omega
      have s3 := Same.trans s2 (same_upd (o := .tup [.int (i : Nat), .ref ea]) nT)
      have hf3 : (upd H2 T' (.tup [.int (i : Nat), .ref ea])) f = _ := (upd_ne (ne_of_none hf nT)).trans hf
      have i23 : Imm H2 (upd H2 T' (.tup [.int (i : Nat), .ref ea])) := Imm.new nT
      have hT3 : (upd H2 T' (.tup [.int (i : Nat), .ref ea])) T' = some (.tup [.int (i : Nat), .ref ea]) := upd_same
      generalize (upd H2 T' (.tup [.int (i : Nat), .ref ea])) = H3 at s3 hf3 i23 hT3 ⊢
      refine ⟨T', _, rfl, .inl (.inl hT3), rfl, _, _, rfl, _, _, rfl, ea, _, rfl, .inl (.inl (s3 _ _ hea)), rfl, _, _, rfl, _, _, rfl, rfl, rfl, ?_⟩
      have hm3 := hm.im (Imm.of_same s3)
      have hr3 := hr1.im (Imm.of_same s3)
      have hei : es.getD i ([], 0) = en := by rw [List.getD_eq_getElem?_getD, he]; rfl
      -- elder
      let eld : Option (List Int × Nat) := st.mem.map fun m => (m.1.getD i [], m.2)
      refine ⟨fun v H' => ∃ aa, v = .ref aa ∧ Same H3 H' ∧ ∃ ty, EldT H' aa ty p en.1 c eld ∧ ∃ l, u = .str (tx l) ∧ l.length ≤ 1 ∧ ty = l ++ [c], ?_, ?_⟩
      · refine ⟨_, rfl, Nat.zero_le _, fun t nt => ?_⟩
        have hm5 := hm3.im (Imm.new (o := .tup []) nt)
        cases hmem : st.mem with
        | none =>
          rw [hmem] at hm5
          obtain ⟨⟨mb, rfl, hmb⟩, rfl⟩ := hm5
          refine ⟨.tuple [], .tuple [], dp_nil hmb, dp_nil upd_same, shaped_nil, shaped_nil, false, by rw [eqv_nil]; rfl, iteF ⟨Nat.zero_le _, fun t2 nt2 => ?_⟩⟩
          refine ⟨t2, rfl, Same.trans (same_upd nt) (same_upd nt2), [c], ?_, [], rfl, Nat.zero_le _, rfl⟩
          show EldT _ t2 [c] p en.1 c (st.mem.map fun m => (m.1.getD i [], m.2))
          rw [hmem]
          exact ⟨upd_same, rfl⟩
        | some qq =>
          obtain ⟨hh, d⟩ := qq
          rw [hmem] at hm5
          obtain ⟨hR, rfl⟩ := hm5
          obtain ⟨rok, hd, hsw⟩ := sok.mem hh d hmem
          obtain ⟨ns, hns, hnl⟩ := rok.each i en he
          have hne : hh.isEmpty = false := by
            cases hh with
            | nil => simp at hns
            | cons x r => rfl
          refine ⟨dRows hh, .tuple [], hR.dp, dp_nil upd_same, shaped_rows _, shaped_nil, true, by rw [eqv_rows_nil, hne]; rfl, ?_⟩
          obtain ⟨am, ws, rfl, hma, hmp⟩ := hR
          obtain ⟨wv, hwv, aw, rfl, haw⟩ := Paired.get hmp hns
          refine iteT ⟨_, rfl, _, rfl, am, _, _, .ref aw, rfl, rfl, .inl (.inl hma), atI_nat hwv, ?_⟩
          refine ⟨aw, rfl, same_upd nt, [d, c], ?_, [d], rfl, Nat.le_refl _, rfl⟩
          show EldT _ aw [d, c] p en.1 c (st.mem.map fun m => (m.1.getD i [], m.2))
          rw [hmem]
          refine ⟨?_, ?_, rfl, hsw⟩
          · show _ = some (HO.tup ((hh.getD i []).map V.int))
            rw [List.getD_eq_getElem?_getD, hns]
            exact haw
          · show (hh.getD i []).length = _
            rw [List.getD_eq_getElem?_getD, hns]
            exact hnl
      rintro _ H4 ⟨aa, rfl, s4, ty, hel, l, rfl, hll, rfl⟩
      have s5 := Same.trans s3 s4
      have hf4 := s4 _ _ hf3
      obtain ⟨ns, hns, hnl⟩ := sok.row.each i en he
      obtain ⟨ar, ws, rfl, har, hrp⟩ := hr1.im (Imm.of_same s5)
      obtain ⟨wv, hwv, aw, rfl, haw⟩ := Paired.get hrp hns
      have eok := ok.all en (List.mem_of_getElem? he)
      obtain ⟨dxs, hs1⟩ := h4
      refine ⟨_, rfl, .inl ⟨rfl, _, .inl (.inl hf4)⟩, .ref a, rfl, gp (s5 _ _ h1) rfl ?_⟩
      refine ⟨_, rfl, _, rfl, _, rfl, ar, _, _, .ref aw, rfl, rfl, .inl (.inl har), atI_nat hwv, _, rfl, _, rfl, _, rfl, _, _, rfl, rfl, by rw [tx_len, tx_len]; show _ + 1 ≤ _; omega, _, rfl, _, rfl, ?_⟩
      rw [tx_app]
      refine ⟨s1, aw, aa, p, en.1, ns, _, eld, c, rfl, ⟨dxs, s5 _ _ hs1⟩, eok.lo, eok.hi, haw, hnl, hel, fun H6 r6 s6 hr6 => ?_⟩
      have hys6 : Paired (TupI H6) ys ((stepM p es st c).row.take i) := Paired.mapP hys fun _ _ q => q.im (i23.trans ((Imm.of_same s4).trans (Imm.of_same s6)))
      refine ⟨f, _, _, rfl, rfl, s6 _ _ hf4, ?_, ?_⟩
      · have e1 := Paired.length hys
        rw [List.length_take] at e1
        omega
      refine ⟨Same.wr (Same.trans s5 s6) nf, _, _, _, _, rfl, ys ++ [.ref r6], upd_same, ?_⟩
      have gi : (stepM p es st c).row[i]? = some (nextW p en.1 ns eld c) := by
        unfold stepM
        rw [List.getElem?_map, List.getElem?_range hes]
        show some (nextW p (es.getD i ([], 0)).1 (st.row.getD i []) (st.mem.map fun m => (m.1.getD i [], m.2)) c) = _
        rw [hei, show st.row.getD i [] = ns by rw [List.getD_eq_getElem?_getD, hns]; rfl]
      rw [List.take_add_one, gi]
      have i67 : Imm H6 (upd H6 f (.lst (ys ++ [.ref r6]))) := Imm.wr (s6 _ _ hf4) (fun z => z)
      exact Paired.snoc ⟨r6, rfl, i67.tup hr6⟩ (Paired.mapP hys6 fun _ _ q => q.im i67)
    · rintro σ H2 ⟨s2, x1, x2, x3, x4, rfl, ys, hf, hys⟩
      rw [List.take_of_length_le (by unfold stepM; rw [List.length_map, List.length_range]; omega)] at hys
      obtain ⟨dxs, hs1⟩ := id h4
      have noMem : ∀ (H3 : Hp), Same H2 H3 → (stepM p es st c).mem = none → ∀ tf, H3 tf = none → ∀ te, (upd H3 tf (.tup ys)) te = none → ∀ r, (upd (upd H3 tf (.tup ys)) te (.tup [])) r = none → Q (.ref r) (upd (upd (upd H3 tf (.tup ys)) te (.tup [])) r (.tup [.ref tf, .ref te, .str (tx [])])) := fun H3 s3 hmn tf ntf te nte r' nr' => by
        have i1 : Imm H2 (upd (upd (upd H3 tf (.tup ys)) te (.tup [])) r' (.tup [.ref tf, .ref te, .str (tx [])])) := (Imm.of_same s3).trans ((Imm.new ntf).trans ((Imm.new nte).trans (Imm.new nr')))
        have e1 : (upd (upd (upd H3 tf (.tup ys)) te (.tup [])) r' (.tup [.ref tf, .ref te, .str (tx [])])) tf = some (.tup ys) := (Imm.new nr').tup ((Imm.new nte).tup upd_same)
        have e2 : (upd (upd (upd H3 tf (.tup ys)) te (.tup [])) r' (.tup [.ref tf, .ref te, .str (tx [])])) te = some (.tup []) := (Imm.new nr').tup upd_same
        refine q _ _ (Same.trans (Same.trans s2 s3) (Same.trans (same_upd ntf) (Same.trans (same_upd nte) (same_upd nr')))) ⟨r', _, _, _, rfl, upd_same, ⟨tf, ys, rfl, e1, Paired.mapP hys fun _ _ z => z.im i1⟩, ?_⟩
        rw [hmn]
        exact ⟨⟨te, rfl, e2⟩, rfl⟩
      cases hsw : p.sw with
      | none =>
        refine ⟨.ref a, rfl, gp (s2 _ _ h1) rfl (gp (s2 _ _ hs1) slSw ⟨rfl, true, by rw [hsw]; rfl, iteT (iteT ?_)⟩)⟩
        refine ⟨_, rfl, f, _, rfl, .inl ⟨.inl (.inl hf), fun tf ntf => ⟨Nat.zero_le _, fun te nte => ⟨by show 3 ≤ sizeLine; omega, fun r' nr' => ?_⟩⟩⟩⟩
        exact noMem H2 Same.rfl' (if_neg (fun z => by rw [hsw] at z; cases z.1)) tf ntf te nte r' nr'
      | some sv =>
        refine ⟨.ref a, rfl, gp (s2 _ _ h1) rfl (gp (s2 _ _ hs1) slSw ⟨rfl, false, by rw [hsw]; rfl, iteF ?_⟩)⟩
        refine ⟨_, rfl, _, rfl, a, p, es, rfl, hsp.im (Imm.of_same s2), ok, fun H3 s3 => ⟨c, _, rfl, rfl, _, rfl, ?_⟩⟩
        have hf3 := s3 _ _ hf
        by_cases hc : c ∈ abc es
        · refine iteND (by simpa using hc) ?_
          refine ⟨_, rfl, f, _, rfl, .inl ⟨.inl (.inl hf3), fun tf ntf => ⟨_, rfl, _, rfl, by show 3 ≤ sizeLine; omega, fun r' nr' => ?_⟩⟩⟩
          have i1 : Imm H2 (upd (upd H3 tf (.tup ys)) r' (.tup [.ref tf, r, .str (tx [c])])) := (Imm.of_same s3).trans ((Imm.new ntf).trans (Imm.new nr'))
          refine q _ _ (Same.trans (Same.trans s2 s3) (Same.trans (same_upd ntf) (same_upd nr'))) ⟨r', _, _, _, rfl, upd_same, ⟨tf, ys, rfl, (Imm.new nr').tup upd_same, Paired.mapP hys fun _ _ z => z.im i1⟩, ?_⟩
          have hmn : (stepM p es st c).mem = some (st.row, c) := if_pos ⟨by rw [hsw]; rfl, hc⟩
          rw [hmn]
          exact ⟨hr1.im ((Imm.of_same s2).trans i1), rfl⟩
        · refine iteNDn (by simpa using hc) ?_
          refine ⟨_, rfl, f, _, rfl, .inl ⟨.inl (.inl hf3), fun tf ntf => ⟨Nat.zero_le _, fun te nte => ⟨by show 3 ≤ sizeLine; omega, fun r' nr' => ?_⟩⟩⟩⟩
          exact noMem H3 s3 (if_neg (fun z => hc z.2)) tf ntf te nte r' nr'
end
end Mw


set_option Elab.async false
set_option linter.all false
set_option maxRecDepth 100000
set_option maxHeartbeats 4000000
set_option pp.maxSteps 600
set_option pp.deepTerms false
namespace Mw
open PySem PySem.Spec PyProof.Rows L2
open C8 (Cal pe_c Mak pe_mk)
theorem strOk_tx {l : List Nat} (h : ∀ c ∈ l, c ∈ alphaL) : PyData.strOk (tx l) = true := by
  unfold PyData.strOk
  show l.toArray.all (fun x => decide (x < 0x110000)) = true
  rw [List.all_toArray, List.all_eq_true]
  intro c hc
  have h1 := h c hc
  have h2 : ∀ c ∈ alphaL, c < 0x110000 := by decide
  exact decide_eq_true (h2 c h1)
abbrev dTrip (q : Int × Int × Str) : PyData := .tuple [.int q.1, .int q.2.1, .str q.2.2]
theorem lay_trips : ∀ {qs : List (Int × Int × Str)}, (∀ q ∈ qs, PyData.strOk q.2.2 = true) → PyData.canLayAll0 (qs.map dTrip) = true
  | [], _ => by simp [PyData.canLayAll0]
  | q :: qs, h => by
    rw [List.map_cons, PyData.canLayAll0, lay_trips fun x hx => h x (List.mem_cons_of_mem _ hx)]
    simp [PyData.canLay0, PyData.canLayAll0, h q (List.mem_cons_self ..)]
theorem dep_trips : ∀ (qs : List (Int × Int × Str)), PyData.depthAll (qs.map dTrip) ≤ 1
  | [] => by simp [PyData.depthAll]
  | q :: qs => by
    have := dep_trips qs
    rw [List.map_cons, PyData.depthAll]
    simp [PyData.depth, PyData.depthAll]
    omega
theorem shaped_trips {qs : List (Int × Int × Str)} (h : ∀ q ∈ qs, PyData.strOk q.2.2 = true) : SeqAt.shaped (.list (qs.map dTrip)) = true := by
  have h1 := dep_trips qs
  unfold SeqAt.shaped
  rw [PyData.canLay0, lay_trips h, PyData.depth, decide_eq_true (by omega)]
  rfl
theorem eqv_lnil (ds : List PyData) : PyData.eqv (.list ds) (.list []) = ds.isEmpty := by
  rw [PyData.eqv]
  cases ds with
  | nil => rw [PyData.eqvAll]; rfl
  | cons d ds => rw [PyData.eqvAll]; rfl
theorem shaped_lnil : SeqAt.shaped (.list []) = true := shaped_trips (qs := []) fun q h => by cases h
def TripT (H : Hp) (p : Addr) (q : Int × Int × Str) : Prop := H p = some (.tup [.int q.1, .int q.2.1, .str q.2.2])
theorem TripT.im {H H' : Hp} {p : Addr} {q : Int × Int × Str} (h : TripT H p q) (k : Imm H H') : TripT H' p q := Imm.tup k h
section
variable {P : Program} {w : World} {K : PySem.W.Frag} {mg : Str → Option Value} {base : Heap}
theorem dp_trips {H : Hp} : ∀ {ps : List Addr} {qs : List (Int × Int × Str)}, Paired (TripT H) ps qs → DpAll K H (ps.map V.ref) (qs.map dTrip)
  | _, _, .nil => .nil
  | _, _, .cons h t => .cons (.tup (.inl (.inl h)) (.cons (.int _) (.cons (.int _) (.cons (.str _) .nil)))) (dp_trips t)
/-- the triples of least_total -/
def trips (es : List Ent) (row : List (List Int)) : List (Int × Int × Str) := (List.range es.length).map fun i => ((totals es row).getD i 0, (i : Int), tx (es.getD i ([], 0)).1)
theorem trips_get {es : List Ent} {row : List (List Int)} {i : Nat} (h : i < es.length) : (trips es row)[i]? = some ((totals es row).getD i 0, (i : Int), tx (es.getD i ([], 0)).1) := by
  unfold trips
  rw [List.getElem?_map, List.getElem?_range h]
  rfl
theorem totals_len {es : List Ent} {row : List (List Int)} : (totals es row).length = es.length := by unfold totals; rw [List.length_map, List.length_range]
theorem lastI {ns : List Int} (h : ns ≠ []) : atI (ns.map V.int) (-1) = some (.int (ns.getLastD 0)) := by
  have e : ns.map V.int = ns.dropLast.map V.int ++ [.int (ns.getLast h)] := by
    rw [← List.map_singleton, ← List.map_append, List.dropLast_concat_getLast]
  rw [e, atI_last, List.getLastD_eq_getLast?, List.getLast?_eq_getLast h]
  rfl
/-! ### least_total -/
abbrev NLeastTotal : List Str := ["speller", "here", "found", "at", "word", "own", "total"]
theorem scLeastTotal : FnScope NLeastTotal ["speller", "here"] (defScope sLeastTotal) := ⟨rfl, rfl, rfl, by decide +kernel, rfl, by decide +kernel, by decide +kernel⟩
def spLeastTotal (P : Program) (w : World) (K : PySem.W.Frag) : Sp := fun vs H Q _ => ∃ (a : Addr) (v : V) (p : Pr) (es : List Ent) (row : List (List Int)), vs = [.ref a, v] ∧ SpellerAt K H a p es ∧ EntsOk es ∧ RowT H v row ∧ RowOk es row ∧
  (es = [] → ∀ H', Same H H' → Q .non H') ∧
  (es ≠ [] → ∀ H' r, Same H H' → H' r = some (.tup [.int ((totals es row).getD (leastAt (totals es row)) 0), .str (tx (es.getD (leastAt (totals es row)) ([], 0)).1)]) → Q (.ref r) H')
theorem oLeastTotal (T : Txt K mg) : Cal P w K mg base 3 "least_total" (spLeastTotal P w K) [] := by
  refine calD (dLeastTotal_fn T) (gLeastTotal T) scLeastTotal (fun vs H Q E h => ?_) (fun _ _ _ _ _ _ us hl => match us, hl with | [_, _], _ => rfl) (fun cdv A outer s H vs Q E hr h => ?_)
  · obtain ⟨a, v, p, es, row, rfl, _⟩ := h
    rfl
  · obtain ⟨a, v, p, es, row, rfl, hsp, ok, hrow, rok, q0, q1⟩ := h
    obtain ⟨dx, e, s1, vs, h1, h2, h3, h4⟩ := id hsp
    refine ⟨_, PSs.nox (pss_cons (ps_set (i := 2) scLeastTotal.nd rfl (.inl rfl) (pe_lst pa_nil))
       (pss_cons (ps_for PassesOwn.never rfl (pi_enumT (by rfl) (f_enumerate T) (pa_cons (pe_pEntries T hr (by decide) (pv 0)) pa_nil)) (pg_tup rfl (pgs_cons (pg_name (i := 3) scLeastTotal.nd rfl (.inl rfl)) (pgs_cons (pg_tup rfl (pgs_cons (pg_name (i := 4) scLeastTotal.nd rfl (.inl rfl)) (pgs_cons (pg_name (i := 5) scLeastTotal.nd rfl (.inl rfl)) pgs_nil))) pgs_nil)))
       (pss_one (ps_expr (pe_bm PySem.F.plainAttrs_list PySem.F.slot_list_append PySem.F.type_list_append mt_append (pv 2) (pa_cons (pe_tup (pa_cons (pe_op op_add (pe_ix (kIxT K rfl) (pe_ix (kIxT K rfl) (pv 1) (pv 3) (fun _ _ => rfl)) (pe_un un_neg pe_int) (fun _ _ => rfl)) (pv 5)) (pa_cons (pv 3) (pa_cons (pv 4) pa_nil)))) pa_nil)))))
       (pss_cons (ps_if (pt_cmpR (kEqD K rfl hr.units) (pv 2) (pe_lst pa_nil) (nomark _))
       (pss_one (ps_ret pe_non))
       pss_nil)
       (pss_cons (ps_asg (pe_callB (cr_minTrip rfl hr.units) (by rfl) (f_min T) (by decide +kernel) (pa_cons (pv 2) pa_nil)) (pg_tup rfl (pgs_cons (pg_name (i := 6) scLeastTotal.nd rfl (.inl rfl)) (pgs_cons (pg_name (i := 3) scLeastTotal.nd rfl (.inl rfl)) (pgs_cons (pg_name (i := 4) scLeastTotal.nd rfl (.inl rfl)) pgs_nil)))))
       (pss_one (ps_ret (pe_tup (pa_cons (pv 6) (pa_cons (pv 4) pa_nil))))))))), ?_⟩
    have hsz : sizeLine = 16777216 := sizeLine_eq
    have few := ok.few
    have hl : vs.length = es.length := Paired.length h3
    obtain ⟨ar, ws, rfl, har, hrp⟩ := id hrow
    refine ⟨Nat.zero_le _, fun f nf => ?_⟩
    have s0 : Same H (upd H f (.lst [])) := same_upd nf
    refine ⟨_, rfl, gp (s0 _ _ h1) rfl ?_⟩
    refine ⟨e, vs, rfl, .inl (.inl (s0 _ _ h2)), for_it walk_G (fun i σ H2 => Same H H2 ∧ ∃ x1 x2 x3 x4, σ = [some (.ref a), some (.ref ar), some (.ref f), x1, x2, x3, x4] ∧ ∃ ps, H2 f = some (.lst (ps.map V.ref)) ∧ Paired (TripT H2) ps ((trips es row).take i)) ⟨s0, none, none, none, none, rfl, [], upd_same, .nil⟩ (fun i σ H2 _ ⟨s2, _⟩ => .inl (.inl (s2 _ _ h2))) ?_ ?_⟩
    · rintro i x σ H2 H3 hi ⟨s2, x1, x2, x3, x4, rfl, ps, hf, hps⟩ ⟨T', y1, y2, rfl, nT, rfl, e1, e2⟩
      cases (Option.some.inj e1)
      obtain ⟨en, he, ea, rfl, hea⟩ := Paired.getL h3 e2
      have hes : i < es.length := by omega
      have s3 := Same.trans s2 (same_upd (o := .tup [.int (i : Nat), .ref ea]) nT)
      have hf3 : (upd H2 T' (.tup [.int (i : Nat), .ref ea])) f = _ := (upd_ne (ne_of_none hf nT)).trans hf
      have i23 : Imm H2 (upd H2 T' (.tup [.int (i : Nat), .ref ea])) := Imm.new nT
      have hT3 : (upd H2 T' (.tup [.int (i : Nat), .ref ea])) T' = some (.tup [.int (i : Nat), .ref ea]) := upd_same
      generalize (upd H2 T' (.tup [.int (i : Nat), .ref ea])) = H3 at s3 hf3 i23 hT3 ⊢
      refine ⟨T', _, rfl, .inl (.inl hT3), rfl, _, _, rfl, _, _, rfl, ea, _, rfl, .inl (.inl (s3 _ _ hea)), rfl, _, _, rfl, _, _, rfl, rfl, rfl, ?_⟩
      have hei : es.getD i ([], 0) = en := by rw [List.getD_eq_getElem?_getD, he]; rfl
      obtain ⟨ns, hns, hnl⟩ := rok.each i en he
      obtain ⟨wv, hwv, aw, rfl, haw⟩ := Paired.get hrp hns
      have nne : ns ≠ [] := fun z => by rw [z] at hnl; simp at hnl
      refine ⟨_, rfl, .inl ⟨rfl, _, .inl (.inl hf3)⟩, _, rfl, _, rfl, ar, _, _, .ref aw, rfl, rfl, .inl (.inl (s3 _ _ har)), atI_nat hwv, _, rfl, aw, _, _, _, rfl, rfl, .inl (.inl (s3 _ _ haw)), lastI nne, _, rfl, _, _, rfl, rfl, _, rfl, _, rfl, by show 3 ≤ sizeLine; omega, fun t nt => ?_⟩
      have hf4 : (upd H3 t (.tup [.int (ns.getLastD 0 + en.2), .int (i : Nat), .str (tx en.1)])) f = _ := (upd_ne (ne_of_none hf3 nt)).trans hf3
      refine ⟨f, _, _, rfl, rfl, hf4, ?_, ?_⟩
      · have e1 := Paired.length hps
        rw [List.length_take] at e1
        rw [List.length_map]
        omega
      refine ⟨Same.wr (Same.trans s3 (same_upd nt)) nf, _, _, _, _, rfl, ps ++ [t], by rw [upd_same, List.map_append]; rfl, ?_⟩
      rw [List.take_add_one, trips_get hes]
      have i47 : Imm (upd H3 t (.tup [.int (ns.getLastD 0 + en.2), .int (i : Nat), .str (tx en.1)])) (upd (upd H3 t (.tup [.int (ns.getLastD 0 + en.2), .int (i : Nat), .str (tx en.1)])) f (.lst (ps.map V.ref ++ [.ref t]))) := Imm.wr hf4 (fun z => z)
      have et : (totals es row).getD i 0 = ns.getLastD 0 + en.2 := by
        unfold totals
        rw [List.getD_eq_getElem?_getD, List.getElem?_map, List.getElem?_range hes]
        show (row.getD i []).getLastD 0 + (es.getD i ([], 0)).2 = _
        rw [hei, show row.getD i [] = ns by rw [List.getD_eq_getElem?_getD, hns]; rfl]
      rw [et, hei]
      exact Paired.snoc (show TripT _ t _ from i47.tup upd_same) (Paired.mapP hps fun _ _ q => q.im ((i23.trans (Imm.new nt)).trans i47))
    · rintro σ H2 ⟨s2, x1, x2, x3, x4, rfl, ps, hf, hps⟩
      have tl : (trips es row).length = es.length := by unfold trips; rw [List.length_map, List.length_range]
      rw [List.take_of_length_le (by omega)] at hps
      have pl : ps.length = es.length := (Paired.length hps).trans tl
      refine ⟨_, rfl, Nat.zero_le _, fun t nt => ?_⟩
      have hf3 : (upd H2 t (.lst [])) f = _ := (upd_ne (ne_of_none hf nt)).trans hf
      have s3 := Same.trans s2 (same_upd (o := .lst []) nt)
      have hps3 := Paired.mapP hps fun _ _ q => q.im (Imm.new (o := .lst []) nt)
      have dl : Dp K (upd H2 t (.lst [])) (.ref f) (.list ((trips es row).map dTrip)) := .lst (.inl (.inl hf3)) (dp_trips hps3)
      have dn : Dp K (upd H2 t (.lst [])) (.ref t) (.list []) := .lst (.inl (.inl upd_same)) .nil
      have st : SeqAt.shaped (.list ((trips es row).map dTrip)) = true := shaped_trips fun q hq => by
        obtain ⟨i, hi, rfl⟩ := List.mem_map.mp hq
        have hi2 := List.mem_range.mp hi
        refine strOk_tx ?_
        have hm : es.getD i ([], 0) ∈ es := by
          rw [List.getD_eq_getElem?_getD, List.getElem?_eq_getElem hi2]
          exact List.getElem_mem hi2
        exact (ok.all _ hm).abc
      generalize (upd H2 t (.lst [])) = H3 at hf3 s3 hps3 dl dn ⊢
      by_cases hes : es = []
      · have hemp : ((trips es row).map dTrip).isEmpty = true := by subst hes; rfl
        refine ⟨_, _, dl, dn, st, shaped_lnil, true, by rw [eqv_lnil, hemp], iteT ?_⟩
        exact q0 hes H3 s3
      · have hpos : 0 < es.length := List.length_pos_iff.mpr hes
        have hemp : ((trips es row).map dTrip).isEmpty = false := by
          cases ht : trips es row with
          | nil => rw [ht] at tl; simp at tl; omega
          | cons x r => rfl
        refine ⟨_, _, dl, dn, st, shaped_lnil, false, by rw [eqv_lnil, hemp], iteF ?_⟩
        have lt : leastAt (totals es row) < es.length := by
          have := best_lt (bt := fun i j => decide ((totals es row).getD i 0 < (totals es row).getD j 0)) ((totals es row).length - 1)
          have e := totals_len (es := es) (row := row)
          unfold leastAt
          omega
        refine ⟨_, rfl, f, ps, totals es row, (List.range es.length).map fun i => tx (es.getD i ([], 0)).1, rfl, .inl (.inl hf3), ?_, by rw [totals_len, pl], by rw [List.length_map, List.length_range, pl], fun i p' hp => ?_, fun p' hp => ?_⟩
        · intro z; rw [z] at pl; simp at pl; omega
        · obtain ⟨qq, hq, ht⟩ := Paired.getL hps3 hp
          have hi : i < es.length := by have := (List.getElem?_eq_some_iff.mp hq).1; omega
          rw [trips_get hi] at hq
          cases (Option.some.inj hq)
          refine .inl (.inl (ht.trans ?_))
          have e3 : ((List.range es.length).map fun i => tx (es.getD i ([], 0)).1).getD i default = tx (es.getD i ([], 0)).1 := by
            rw [List.getD_eq_getElem?_getD, List.getElem?_map, List.getElem?_range hi]
            rfl
          rw [e3]
        · obtain ⟨qq, hq, ht⟩ := Paired.getL hps3 hp
          rw [trips_get lt] at hq
          cases (Option.some.inj hq)
          refine ⟨p', _, rfl, .inl (.inl ht), rfl, _, _, rfl, _, _, rfl, _, _, rfl, rfl, ?_⟩
          refine ⟨_, rfl, _, rfl, by show 2 ≤ sizeLine; omega, fun r' nr' => ?_⟩
          exact q1 hes _ r' (Same.trans s3 (same_upd nr')) upd_same
end
end Mw


set_option Elab.async false
set_option linter.all false
set_option maxRecDepth 100000
set_option maxHeartbeats 4000000
set_option pp.maxSteps 600
set_option pp.deepTerms false
namespace Mw
open PySem PySem.Spec PyProof.Rows L2
open C8 (Cal pe_c Mak pe_mk)
def ansV : Option (List Nat) → V
  | none => .non
  | some x => .str (tx x)
section
variable {P : Program} {w : World} {K : PySem.W.Frag} {mg : Str → Option Value} {base : Heap}
/-! ### is_row -/
abbrev NIsRow : List Str := ["speller", "thing", "word", "own", "worths", "worth"]
theorem scIsRow : FnScope NIsRow ["speller", "thing"] (defScope sIsRow) := ⟨rfl, rfl, rfl, by decide +kernel, rfl, by decide +kernel, by decide +kernel⟩
def spIsRow (P : Program) (w : World) (K : PySem.W.Frag) : Sp := fun vs H Q _ => ∃ (a : Addr) (v : V) (p : Pr) (es : List Ent) (row : List (List Int)), vs = [.ref a, v] ∧ SpellerAt K H a p es ∧ EntsOk es ∧ RowT H v row ∧ RowOk es row ∧ ∀ H', Same H H' → Q (.bl true) H'
theorem oIsRow (T : Txt K mg) : Cal P w K mg base 3 "is_row" (spIsRow P w K) [] := by
  refine calD (dIsRow_fn T) (gIsRow T) scIsRow (fun vs H Q E h => ?_) (fun _ _ _ _ _ _ us hl => match us, hl with | [_, _], _ => rfl) (fun cdv A outer s H vs Q E hr h => ?_)
  · obtain ⟨a, v, p, es, row, rfl, _⟩ := h
    rfl
  · obtain ⟨a, v, p, es, row, rfl, hsp, ok, hrow, rok, q⟩ := h
    obtain ⟨dx, e, s1, vs, h1, h2, h3, h4⟩ := id hsp
    refine ⟨_, PSs.nox (pss_cons (ps_if (PW.pt (pw_or (pt_not (pt_val (pe_callB call_isi (by rfl) (f_isinstance T) (by decide +kernel) (pa_cons (pv 1) (pa_cons (pe_bltn (v := .ty "tuple") (by rfl) (f_tuple T) boot_tuple rfl) pa_nil))))) (pw_or1 (pt_cmpR op_ne (pe_callB (kLen K rfl) (by rfl) (f_len T) (by decide +kernel) (pa_cons (pv 1) pa_nil)) (pe_callB (kLen K rfl) (by rfl) (f_len T) (by decide +kernel) (pa_cons (pe_pEntries T hr (by decide) (pv 0)) pa_nil)) (nomark _)))))
       (pss_one (ps_ret pe_bl))
       pss_nil)
       (pss_cons (ps_for PassesOwn.never rfl (RZ.pi_zipA (by rfl) (f_zip T) (pa_cons (pe_pEntries T hr (by decide) (pv 0)) (pa_cons (pv 1) pa_nil))) (pg_tup rfl (pgs_cons (pg_tup rfl (pgs_cons (pg_name (i := 2) scIsRow.nd rfl (.inl rfl)) (pgs_cons (pg_name (i := 3) scIsRow.nd rfl (.inl rfl)) pgs_nil))) (pgs_cons (pg_name (i := 4) scIsRow.nd rfl (.inl rfl)) pgs_nil)))
       (pss_cons (ps_if (PW.pt (pw_or (pt_not (pt_val (pe_callB call_isi (by rfl) (f_isinstance T) (by decide +kernel) (pa_cons (pv 4) (pa_cons (pe_bltn (v := .ty "tuple") (by rfl) (f_tuple T) boot_tuple rfl) pa_nil))))) (pw_or1 (pt_cmpR op_ne (pe_callB (kLen K rfl) (by rfl) (f_len T) (by decide +kernel) (pa_cons (pv 4) pa_nil)) (pe_op op_add (pe_callB call_len_str (by rfl) (f_len T) (by decide +kernel) (pa_cons (pv 2) pa_nil)) pe_int) (nomark _)))))
       (pss_one (ps_ret pe_bl))
       pss_nil)
       (pss_one (ps_if (pt_not (pt_val (pe_callB (kAll K rfl rfl) (by rfl) (f_all T) (by decide +kernel) (pa_cons (pe_lc (own := [("worth", 5)]) (g := gName 5) rfl scIsRow.nd (kPiT K rfl (pv 4)) (blkOk_by (own := [("worth", 5)]) (N := NIsRow) (sc := defScope sIsRow) (by decide +kernel)) (fun _ _ _ _ _ => (pg_name (i := 5) scIsRow.nd rfl (.inl rfl))) (fun _ _ _ _ _ => pts_nil) (fun _ _ _ _ _ => (pe_c (oIsInteger T) hr (by decide) (by rfl) (pa_cons (pv 5) pa_nil)))) pa_nil))))
       (pss_one (ps_ret pe_bl))
       pss_nil))))
       (pss_one (ps_ret pe_bl)))), ?_⟩
    have hsz : sizeLine = 16777216 := sizeLine_eq
    have few := ok.few
    have hl : vs.length = es.length := Paired.length h3
    obtain ⟨ar, ws, rfl, har, hrp⟩ := id hrow
    have hw : ws.length = es.length := (Paired.length hrp).trans rok.len
    refine ⟨_, rfl, .ref ar, .ty "tuple", .type "tuple", .type "tuple", true, rfl, .ty _, .base (.tup har), kit_ty (by decide +kernel), true, rfl, iteF ?_⟩
    refine ⟨_, rfl, ar, ws, rfl, .inr (.inl (.inl har)), .ref a, rfl, gp h1 rfl ⟨e, vs, rfl, .inr (.inl (.inl h2)), rfl, _, rfl, iteND (by rw [hl, hw]) ?_⟩⟩
    refine ⟨.ref a, rfl, gp h1 rfl ⟨_, rfl, e, ar, vs, ws, rfl, .inr ⟨.inl (.inl h2), .inl (.inl har), ?_⟩⟩⟩
    refine for_it (walk_zipT (n := es.length) (by omega)) (fun i σ H2 => Same H H2 ∧ ∃ x1 x2 x3 x4, σ = [some (.ref a), some (.ref ar), x1, x2, x3, x4]) ⟨Same.rfl', none, none, none, none, rfl⟩ (fun i σ H2 _ ⟨s2, _⟩ => ⟨.inl (.inl (s2 _ _ h2)), .inl (.inl (s2 _ _ har))⟩) ?_ ?_
    · rintro i x σ H2 H3 hi ⟨s2, x1, x2, x3, x4, rfl⟩ ⟨T', y1, y2, rfl, nT, rfl, e1, e2⟩
      obtain ⟨en, he, ea, rfl, hea⟩ := Paired.getL h3 e1
      obtain ⟨ns, hns, na, rfl, hna⟩ := Paired.getL hrp e2
      have s3 := Same.trans s2 (same_upd (o := .tup [.ref ea, .ref na]) nT)
      have hT3 : (upd H2 T' (.tup [.ref ea, .ref na])) T' = some (.tup [.ref ea, .ref na]) := upd_same
      generalize (upd H2 T' (.tup [.ref ea, .ref na])) = H3 at s3 hT3 ⊢
      have eok := ok.all en (List.mem_of_getElem? he)
      obtain ⟨ns2, hns2, hnl⟩ := rok.each i en he
      have en2 : ns2 = ns := Option.some.inj (hns2.symm.trans hns)
      subst en2
      have hi5 := eok.hi
      refine ⟨T', _, rfl, .inl (.inl hT3), rfl, _, _, rfl, ea, _, rfl, .inl (.inl (s3 _ _ hea)), rfl, _, _, rfl, _, _, rfl, rfl, _, _, rfl, rfl, ?_⟩
      refine ⟨_, rfl, .ref na, .ty "tuple", .type "tuple", .type "tuple", true, rfl, .ty _, .base (.tup (s3 _ _ hna)), kit_ty (by decide +kernel), true, rfl, iteF ?_⟩
      refine ⟨_, rfl, na, _, rfl, .inr (.inl (.inl (s3 _ _ hna))), _, rfl, _, rfl, by rw [tx_len]; omega, _, _, rfl, rfl, rfl, _, rfl, iteND ?_ ?_⟩
      · rw [tx_len, List.length_map, hnl]
        rfl
      refine ⟨_, rfl, na, rfl, ⟨_, .inl (.inl (s3 _ _ hna))⟩, fun D hD => lc_map (walk_tup (xs := ns2.map V.int)) noA (fun i ys H => ys = (List.replicate i true).map V.bl) hD id (by rw [List.length_map]; omega) (fun j ys H4 _ k _ => .inl (.inl (k.im.tup (s3 _ _ hna)))) rfl ?_ ?_⟩
      · rintro j x H4 H5 ys hj k rfl ⟨rfl, hy⟩ eD push
        obtain ⟨z, hz, rfl⟩ : ∃ z, ns2[j]? = some z ∧ V.int z = x := by
          rw [List.getElem?_map] at hy
          obtain ⟨z, hz, e⟩ := Option.map_eq_some_iff.mp hy
          exact ⟨z, hz, e⟩
        refine ⟨rfl, _, rfl, z, rfl, push _ _ Kp.refl ?_⟩
        rw [List.replicate_succ', List.map_append]
        rfl
      · intro H4 ys k eD t
        subst t
        refine ⟨D, _, rfl, .inl (.inl eD), true, by simp, iteF ?_⟩
        exact ⟨Same.trans s3 k.toSame, _, _, _, _, rfl⟩
    · rintro σ H2 ⟨s2, x1, x2, x3, x4, rfl⟩
      exact q H2 s2
/-! ### is_state -/
abbrev NIsState : List Str := ["speller", "thing"]
theorem scIsState : FnScope NIsState ["speller", "thing"] (defScope sIsState) := ⟨rfl, rfl, rfl, by decide +kernel, rfl, by decide +kernel, by decide +kernel⟩
def spIsState (P : Program) (w : World) (K : PySem.W.Frag) : Sp := fun vs H Q _ => ∃ (a : Addr) (v : V) (p : Pr) (es : List Ent) (s : Sta), vs = [.ref a, v] ∧ SpellerAt K H a p es ∧ EntsOk es ∧ StT H v s ∧ StaOk p es s ∧ ∀ H', Same H H' → Q (.bl true) H'
theorem oIsState (T : Txt K mg) : Cal P w K mg base 4 "is_state" (spIsState P w K) [] := by
  refine calD (dIsState_fn T) (gIsState T) scIsState (fun vs H Q E h => ?_) (fun _ _ _ _ _ _ us hl => match us, hl with | [_, _], _ => rfl) (fun cdv A outer s H vs Q E hr h => ?_)
  · obtain ⟨a, v, p, es, s', rfl, _⟩ := h
    rfl
  · obtain ⟨a, v, p, es, st, rfl, hsp, ok, ⟨b, r, m, u, rfl, hb, hr1, hm⟩, sok, q⟩ := h
    obtain ⟨dx, e, s1, vs, h1, h2, h3, ⟨dxs, hs1⟩⟩ := id hsp
    refine ⟨_, PSs.nox (pss_cons (ps_if (PW.pt (pw_or (pt_not (pt_val (pe_callB call_isi (by rfl) (f_isinstance T) (by decide +kernel) (pa_cons (pv 1) (pa_cons (pe_bltn (v := .ty "tuple") (by rfl) (f_tuple T) boot_tuple rfl) pa_nil))))) (pw_or (pt_cmpR op_ne (pe_callB (kLen K rfl) (by rfl) (f_len T) (by decide +kernel) (pa_cons (pv 1) pa_nil)) pe_int (nomark _)) (pw_or1 (pt_not (pt_val (pe_c (oIsRow T) hr (by decide) (by rfl) (pa_cons (pv 0) (pa_cons (pe_ix (kIxT K rfl) (pv 1) pe_int (fun _ _ => rfl)) pa_nil)))))))))
       (pss_one (ps_ret pe_bl))
       pss_nil)
       (pss_cons (ps_if (PW.pt (pw_or (pt_not (pt_val (pe_callB call_isi (by rfl) (f_isinstance T) (by decide +kernel) (pa_cons (pe_ix (kIxT K rfl) (pv 1) pe_int (fun _ _ => rfl)) (pa_cons (pe_bltn (v := .ty "tuple") (by rfl) (f_tuple T) boot_tuple rfl) pa_nil))))) (pw_or1 (pt_not (pt_val (pe_callB call_isi (by rfl) (f_isinstance T) (by decide +kernel) (pa_cons (pe_ix (kIxT K rfl) (pv 1) pe_int (fun _ _ => rfl)) (pa_cons (pe_bltn (v := .ty "str") (by rfl) (f_str T) boot_str rfl) pa_nil))))))))
       (pss_one (ps_ret pe_bl))
       pss_nil)
       (pss_cons (ps_if (PW.pt (pw_and (pt_cmpR (kEqD K rfl hr.units) (pe_ix (kIxT K rfl) (pv 1) pe_int (fun _ _ => rfl)) (pe_tup pa_nil) (nomark _)) (pw_and1 (pt_cmpR op_eq (pe_ix (kIxT K rfl) (pv 1) pe_int (fun _ _ => rfl)) pe_str (nomark _)))))
       (pss_one (ps_ret pe_bl))
       pss_nil)
       (pss_cons (ps_if (PW.pt (pw_or (pt_cmpR op_isN (pe_pSwapped T hr (by decide) (pe_pSlips T hr (by decide) (pv 0))) pe_non (nomark _)) (pw_or1 (pt_not (pt_val (pe_c (oIsRow T) hr (by decide) (by rfl) (pa_cons (pv 0) (pa_cons (pe_ix (kIxT K rfl) (pv 1) pe_int (fun _ _ => rfl)) pa_nil))))))))
       (pss_one (ps_ret pe_bl))
       pss_nil)
       (pss_one (ps_ret (pe_and (pe_c (oIsLetter T) hr (by decide) (by rfl) (pa_cons (pe_ix (kIxT K rfl) (pv 1) pe_int (fun _ _ => rfl)) pa_nil)) (pe_one (pe_cmpR op_in_sign (pe_ix (kIxT K rfl) (pv 1) pe_int (fun _ _ => rfl)) (pe_c (oLettersOf T) hr (by decide) (by rfl) (pa_cons (pv 0) pa_nil)) (by rfl)))))))))), ?_⟩
    refine ⟨_, rfl, .ref b, .ty "tuple", .type "tuple", .type "tuple", true, rfl, .ty _, .base (.tup hb), kit_ty (by decide +kernel), true, rfl, iteF ?_⟩
    refine ⟨_, rfl, b, _, rfl, .inr (.inl (.inl hb)), rfl, _, rfl, iteND rfl ?_⟩
    refine ⟨_, rfl, _, rfl, b, _, _, _, rfl, rfl, .inl (.inl hb), rfl, a, _, p, es, st.row, rfl, hsp, ok, hr1, sok.row, fun H1 k1 => ⟨true, rfl, iteF ?_⟩⟩
    have hb1 := k1 _ _ hb
    have hm1 := hm.im (Imm.of_same k1)
    cases hmem : st.mem with
    | none =>
      rw [hmem] at hm1
      obtain ⟨⟨mb, rfl, hmb⟩, rfl⟩ := hm1
      refine ⟨_, rfl, b, _, _, _, rfl, rfl, .inl (.inl hb1), rfl, .ref mb, .ty "tuple", .type "tuple", .type "tuple", true, rfl, .ty _, .base (.tup hmb), kit_ty (by decide +kernel), true, rfl, iteF ?_⟩
      refine ⟨_, rfl, b, _, _, _, rfl, rfl, .inl (.inl hb1), rfl, .str (tx []), .ty "str", .type "str", .type "str", true, rfl, .ty _, .base (.str _), kit_ty (by decide +kernel), true, rfl, iteF ?_⟩
      refine ⟨_, rfl, b, _, _, _, rfl, rfl, .inl (.inl hb1), rfl, Nat.zero_le _, fun t nt => ?_⟩
      have hmb2 := (upd_ne (o := .tup []) (ne_of_none hmb nt)).trans hmb
      have hb2 := (upd_ne (o := .tup []) (ne_of_none hb1 nt)).trans hb1
      refine ⟨.tuple [], .tuple [], dp_nil hmb2, dp_nil upd_same, shaped_nil, shaped_nil, true, by rw [eqv_nil]; rfl, iteT ?_⟩
      refine ⟨_, rfl, b, _, _, _, rfl, rfl, .inl (.inl hb2), rfl, rfl, _, rfl, iteD rfl ?_⟩
      exact q _ (Same.trans k1 (same_upd nt))
    | some qq =>
      obtain ⟨hh, d⟩ := qq
      rw [hmem] at hm1
      obtain ⟨hR, rfl⟩ := hm1
      obtain ⟨rok, hd, hsw⟩ := sok.mem hh d hmem
      obtain ⟨am, ws, rfl, hma, hmp⟩ := id hR
      obtain ⟨hda, hdf⟩ := mem_letters.mp hd
      have hne : hh.isEmpty = false := by
        have hl := rok.len
        cases hh with
        | nil =>
          have : es = [] := by
            cases es with
            | nil => rfl
            | cons x r => simp at hl
          subst this
          simp at hdf
        | cons x r => rfl
      refine ⟨_, rfl, b, _, _, _, rfl, rfl, .inl (.inl hb1), rfl, .ref am, .ty "tuple", .type "tuple", .type "tuple", true, rfl, .ty _, .base (.tup hma), kit_ty (by decide +kernel), true, rfl, iteF ?_⟩
      refine ⟨_, rfl, b, _, _, _, rfl, rfl, .inl (.inl hb1), rfl, .str (tx [d]), .ty "str", .type "str", .type "str", true, rfl, .ty _, .base (.str _), kit_ty (by decide +kernel), true, rfl, iteF ?_⟩
      refine ⟨_, rfl, b, _, _, _, rfl, rfl, .inl (.inl hb1), rfl, Nat.zero_le _, fun t nt => ?_⟩
      have k2 := Same.trans k1 (same_upd (o := .tup []) nt)
      have hb2 := k2 _ _ hb
      have hR2 := hR.im (Imm.new (o := .tup []) nt)
      have ht2 : (upd H1 t (.tup [])) t = some (.tup []) := upd_same
      generalize (upd H1 t (.tup [])) = H2 at k2 hb2 hR2 ht2 ⊢
      refine ⟨dRows hh, .tuple [], hR2.dp, dp_nil ht2, shaped_rows _, shaped_nil, false, by rw [eqv_rows_nil, hne], iteF (iteF ?_)⟩
      obtain ⟨sv, hsv⟩ := Option.isSome_iff_exists.mp hsw
      refine ⟨.ref a, rfl, gp (k2 _ _ h1) rfl (gp (k2 _ _ hs1) slSw ⟨rfl, false, by rw [hsv]; rfl, iteF ?_⟩)⟩
      refine ⟨_, rfl, _, rfl, b, _, _, _, rfl, rfl, .inl (.inl hb2), rfl, a, _, p, es, hh, rfl, hsp.im (Imm.of_same k2), ok, hR2, rok, fun H3 k3 => ⟨true, rfl, iteF ?_⟩⟩
      have k13 := Same.trans k2 k3
      refine ⟨_, rfl, b, _, _, _, rfl, rfl, .inl (.inl (k13 _ _ hb)), rfl, d, rfl, hda, fun H4 k4 => ⟨true, rfl, iteT ?_⟩⟩
      have k14 := Same.trans k13 k4
      refine ⟨_, rfl, b, _, _, _, rfl, rfl, .inl (.inl (k14 _ _ hb)), rfl, _, rfl, a, p, es, rfl, hsp.im (Imm.of_same k14), ok, fun H5 k5 => ⟨d, _, rfl, rfl, ?_⟩⟩
      exact bT (F := Q) (by simpa using hd) (q _ (Same.trans k14 k5))
/-! ### first_heard -/
abbrev NFirstHeard : List Str := ["listener", "missing", "found", "word", "own", "at"]
theorem scFirstHeard : FnScope NFirstHeard ["listener"] (defScope sFirstHeard) := ⟨rfl, rfl, rfl, by decide +kernel, rfl, by decide +kernel, by decide +kernel⟩
def spFirstHeard (P : Program) (w : World) (K : PySem.W.Frag) : Sp := fun vs H Q _ => ∃ (a : Addr) (L : Lis), vs = [.ref a] ∧ ListenerAt K H a L ∧ LisOk L ∧ ∀ H' r, Same H H' → StT H' r (startM L.p L.es) → Q r H'
theorem oFirstHeard (T : Txt K mg) : Cal P w K mg base 3 "first_heard" (spFirstHeard P w K) [] := by
  refine calD (dFirstHeard_fn T) (gFirstHeard T) scFirstHeard (fun vs H Q E h => ?_) (fun _ _ _ _ _ _ us hl => match us, hl with | [_], _ => rfl) (fun cdv A outer s H vs Q E hr h => ?_)
  · obtain ⟨a, L, rfl, _⟩ := h
    rfl
  · obtain ⟨a, L, rfl, ⟨dl, sp, hl, hsp⟩, ok, q⟩ := h
    obtain ⟨dx, e, s1, vs, h1, h2, h3, ⟨dxs, hs1⟩⟩ := id hsp
    refine ⟨_, PSs.nox (pss_cons (ps_set (i := 1) scFirstHeard.nd rfl (.inr rfl) (pe_pMissing T hr (by decide) (pe_pSlips T hr (by decide) (pe_pSpeller T hr (by decide) (pv 0)))))
       (pss_cons (ps_setLc (i := 2) (own := [("word", 3), ("own", 4)]) (g := gTup K 2 (gCons (gName 3) (gCons (gName 4) gNil))) rfl scFirstHeard.nd rfl rfl (sw_true rfl rfl rfl (by decide +kernel)) (kPiT K rfl (pe_pEntries T hr (by decide) (pe_pSpeller T hr (by decide) (pv 0)))) (blkOk_by (own := [("word", 3), ("own", 4)]) (N := NFirstHeard) (sc := defScope sFirstHeard) (by decide +kernel)) (fun _ _ _ _ _ => (pg_tup rfl (pgs_cons (pg_name (i := 3) scFirstHeard.nd rfl (.inl rfl)) (pgs_cons (pg_name (i := 4) scFirstHeard.nd rfl (.inl rfl)) pgs_nil)))) (fun _ _ _ _ _ => pts_nil) (fun _ _ _ _ _ => (pe_callTy (kTup K rfl) (by rfl) (f_tuple T) (by decide +kernel) (pa_cons (pe_lc (own := [("at", 5)]) (g := gName 5) rfl scFirstHeard.nd (pi_range1 (by rfl) (f_range T) (pa_cons (pe_op op_add (pe_callB call_len_str (by rfl) (f_len T) (by decide +kernel) (pa_cons (pv 3) pa_nil)) pe_int) pa_nil)) (blkOk_eq (own := [("at", 5)]) (N := NFirstHeard) (sc := reSc (defScope sFirstHeard) (lcSc (stVal ((defBody sFirstHeard).getD 1 (.Pass ⟨0, 0, 0, 0⟩))))) (by rfl) (by decide +kernel)) (fun _ _ _ _ _ => (pg_name (i := 5) scFirstHeard.nd rfl (.inl rfl))) (fun _ _ _ _ _ => pts_nil) (fun _ _ _ _ _ => (pe_op op_mul (pv 1) (pv 5)))) pa_nil))))
       (pss_one (ps_ret (pe_tup (pa_cons (pe_callTy (kTup K rfl) (by rfl) (f_tuple T) (by decide +kernel) (pa_cons (pv 2) pa_nil)) (pa_cons (pe_tup pa_nil) (pa_cons pe_str pa_nil)))))))), ?_⟩
    have hsz : sizeLine = 16777216 := sizeLine_eq
    have few := ok.es.few
    have hlen : vs.length = L.es.length := Paired.length h3
    refine ⟨.ref a, rfl, gp hl rfl (gp h1 rfl (gp hs1 rfl ?_))⟩
    refine ⟨.ref a, rfl, gp hl rfl (gp h1 rfl ⟨e, rfl, ⟨_, .inl (.inl h2)⟩, fun D hD => lc_map (walk_tup (xs := vs)) noA (fun i ys H2 => Paired (TupI H2) ys ((startM L.p L.es).row.take i)) hD id (by omega) (fun i ys H2 _ k _ => .inl (.inl (k.im.tup h2))) .nil ?_ ?_⟩)⟩
    · rintro i x H1 H2 ys hi k t ⟨rfl, hy⟩ eD push
      obtain ⟨en, he, ea, rfl, hea⟩ := Paired.getL h3 hy
      have eok := ok.es.all en (List.mem_of_getElem? he)
      have hi5 := eok.hi
      have y9 := ok.p.y
      have htl := tx_len en.1
      refine ⟨ea, _, rfl, .inl (.inl (k.im.tup hea)), rfl, _, _, rfl, _, _, rfl, rfl, rfl, ?_⟩
      refine ⟨_, rfl, _, rfl, by omega, _, _, rfl, rfl, _, rfl, by omega, by omega, fun D2 hD2 => ?_⟩
      have hn : ((((tx en.1).length : Nat) : Int) + 1).toNat = en.1.length + 1 := by omega
      refine lc_map walk_range noA (fun i ys H2 => ys = (((List.range i).map fun (j : Nat) => L.p.y * (j : Int))).map V.int) hD2 id (by omega) (fun _ _ _ _ _ _ => trivial) rfl ?_ ?_
      · rintro j x H3 H4 zs hj k3 rfl ⟨rfl, rfl⟩ eD2 push2
        refine ⟨rfl, _, rfl, _, rfl, _, _, rfl, rfl, .inl ⟨by omega, by omega⟩, push2 _ _ Kp.refl ?_⟩
        rw [List.range_succ, List.map_append, List.map_append]
        show _ ++ [V.int (L.p.y * (0 + (j : Int)))] = _ ++ [V.int (L.p.y * (j : Int))]
        rw [Int.zero_add]
      · intro H3 zs k3 eD2 t3
        subst t3
        rw [hn] at eD2
        refine ⟨D2, _, rfl, .inl ⟨.inl (.inl eD2), fun l nl => push _ _ (k3.trans (Kp.new nl)) ?_⟩⟩
        have gi : (startM L.p L.es).row[i]? = some ((List.range (en.1.length + 1)).map fun (j : Nat) => L.p.y * (j : Int)) := by
          unfold startM
          rw [List.getElem?_map, he]
          rfl
        have eD4 := (k3.trans (Kp.new (o := .tup ((((List.range (en.1.length + 1)).map fun (j : Nat) => L.p.y * (j : Int))).map V.int)) nl)).kp D _ eD id
        have im : Imm H2 (upd (upd H3 l (.tup ((((List.range (en.1.length + 1)).map fun (j : Nat) => L.p.y * (j : Int))).map V.int))) D (.lst (ys ++ [.ref l]))) := (k3.im.trans (Imm.new nl)).trans (Imm.wr eD4 (fun z => z))
        rw [List.take_add_one, gi]
        exact Paired.snoc ⟨l, rfl, (Imm.wr eD4 (fun z => z)).tup upd_same⟩ (Paired.mapP t fun _ _ q => q.im im)
    · intro H1 ys k eD t
      have hrl : (startM L.p L.es).row.length = L.es.length := by unfold startM; rw [List.length_map]
      rw [List.take_of_length_le (by omega)] at t
      refine ⟨_, rfl, D, _, rfl, .inl ⟨.inl (.inl eD), fun tf ntf => ⟨Nat.zero_le _, fun te nte => ⟨by show 3 ≤ sizeLine; omega, fun r' nr' => ?_⟩⟩⟩⟩
      have i1 : Imm H1 (upd (upd (upd H1 tf (.tup ys)) te (.tup [])) r' (.tup [.ref tf, .ref te, .str (tx [])])) := (Imm.new ntf).trans ((Imm.new nte).trans (Imm.new nr'))
      have e1 : (upd (upd (upd H1 tf (.tup ys)) te (.tup [])) r' (.tup [.ref tf, .ref te, .str (tx [])])) tf = some (.tup ys) := (Imm.new nr').tup ((Imm.new nte).tup upd_same)
      have e2 : (upd (upd (upd H1 tf (.tup ys)) te (.tup [])) r' (.tup [.ref tf, .ref te, .str (tx [])])) te = some (.tup []) := (Imm.new nr').tup upd_same
      exact q _ _ (Same.trans k.toSame (Same.trans (same_upd ntf) (Same.trans (same_upd nte) (same_upd nr')))) ⟨r', _, _, _, rfl, upd_same, ⟨tf, ys, rfl, e1, Paired.mapP t fun _ _ z => z.im i1⟩, ⟨te, rfl, e2⟩, rfl⟩
/-! ### heard_step -/
abbrev NHeardStep : List Str := ["listener", "stand", "letter"]
theorem scHeardStep : FnScope NHeardStep ["listener", "stand", "letter"] (defScope sHeardStep) := ⟨rfl, rfl, rfl, by decide +kernel, rfl, by decide +kernel, by decide +kernel⟩
def spHeardStep (P : Program) (w : World) (K : PySem.W.Frag) : Sp := fun vs H Q _ => ∃ (a : Addr) (L : Lis) (v : V) (s : Sta) (c : Nat), vs = [.ref a, v, .str (tx [c])] ∧ ListenerAt K H a L ∧ LisOk L ∧ StT H v s ∧ StaOk L.p L.es s ∧ ∀ H' r, Same H H' → StT H' r (stepM L.p L.es s c) → Q r H'
theorem oHeardStep (T : Txt K mg) : Cal P w K mg base 5 "heard_step" (spHeardStep P w K) [] := by
  refine calD (dHeardStep_fn T) (gHeardStep T) scHeardStep (fun vs H Q E h => ?_) (fun _ _ _ _ _ _ us hl => match us, hl with | [_, _, _], _ => rfl) (fun cdv A outer s H vs Q E hr h => ?_)
  · obtain ⟨a, L, v, s', c, rfl, _⟩ := h
    rfl
  · obtain ⟨a, L, v, st, c, rfl, ⟨dl, sp, hl, hsp⟩, ok, hst, sok, q⟩ := h
    obtain ⟨dx, e, s1, vs, h1, h2, h3, ⟨dxs, hs1⟩⟩ := id hsp
    refine ⟨_, PSs.nox (pss_one (ps_ret (pe_c (oStepped T) hr (by decide) (by rfl) (pa_cons (pe_pSpeller T hr (by decide) (pv 0)) (pa_cons (pv 1) (pa_cons (pv 2) (pa_cons (pe_pExtra T hr (by decide) (pe_pSlips T hr (by decide) (pe_pSpeller T hr (by decide) (pv 0)))) (pa_cons pe_int pa_nil)))))))), ?_⟩
    refine ⟨.ref a, rfl, gp hl rfl ⟨_, rfl, _, rfl, .ref a, rfl, gp hl rfl (gp h1 rfl (gp hs1 rfl ?_))⟩⟩
    exact ⟨sp, v, L.p, L.es, st, c, rfl, hsp, ok.es, hst, sok, q⟩
/-! ### heard_word -/
abbrev NHeardWord : List Str := ["listener", "stand", "found"]
theorem scHeardWord : FnScope NHeardWord ["listener", "stand"] (defScope sHeardWord) := ⟨rfl, rfl, rfl, by decide +kernel, rfl, by decide +kernel, by decide +kernel⟩
def spHeardWord (P : Program) (w : World) (K : PySem.W.Frag) : Sp := fun vs H Q _ => ∃ (a : Addr) (L : Lis) (v : V) (s : Sta), vs = [.ref a, v] ∧ ListenerAt K H a L ∧ LisOk L ∧ StT H v s ∧ StaOk L.p L.es s ∧ ∀ H', Same H H' → Q (ansV (heardM L s.row)) H'
theorem oHeardWord (T : Txt K mg) : Cal P w K mg base 4 "heard_word" (spHeardWord P w K) [] := by
  refine calD (dHeardWord_fn T) (gHeardWord T) scHeardWord (fun vs H Q E h => ?_) (fun _ _ _ _ _ _ us hl => match us, hl with | [_, _], _ => rfl) (fun cdv A outer s H vs Q E hr h => ?_)
  · obtain ⟨a, L, v, s', rfl, _⟩ := h
    rfl
  · obtain ⟨a, L, v, st, rfl, hli, ok, ⟨b, r, m, u, rfl, hb, hr1, hm⟩, sok, q⟩ := h
    obtain ⟨dl, sp, hl, hsp⟩ := id hli
    refine ⟨_, PSs.nox (pss_cons (ps_set (i := 2) scHeardWord.nd rfl (.inl rfl) (pe_c (oLeastTotal T) hr (by decide) (by rfl) (pa_cons (pe_pSpeller T hr (by decide) (pv 0)) (pa_cons (pe_ix (kIxT K rfl) (pv 1) pe_int (fun _ _ => rfl)) pa_nil))))
       (pss_cons (ps_if (PW.pt (pw_or (pt_cmpR op_isN (pv 2) pe_non (nomark _)) (pw_or1 (pt_cmpR op_gt (pe_ix (kIxT K rfl) (pv 2) pe_int (fun _ _ => rfl)) (pe_pLimit T hr (by decide) (pv 0)) (nomark _)))))
       (pss_one (ps_ret pe_non))
       pss_nil)
       (pss_one (ps_ret (pe_ix (kIxT K rfl) (pv 2) pe_int (fun _ _ => rfl)))))), ?_⟩
    refine ⟨.ref a, rfl, gp hl rfl ⟨_, rfl, b, _, _, _, rfl, rfl, .inl (.inl hb), rfl, sp, r, L.p, L.es, st.row, rfl, hsp, ok.es, hr1, sok.row, fun he H1 k1 => ?_, fun he H1 rr k1 hrr => ?_⟩⟩
    · refine ⟨_, rfl, rfl, true, rfl, iteT (iteT ?_)⟩
      have e : heardM L st.row = none := if_pos he
      have := q H1 k1
      rw [e] at this
      exact this
    · have hl1 := k1 _ _ hl
      refine ⟨_, rfl, rfl, false, rfl, iteF ?_⟩
      refine ⟨_, rfl, rr, _, _, _, rfl, rfl, .inl (.inl hrr), rfl, .ref a, rfl, gp hl1 rfl ⟨_, _, rfl, rfl, _, rfl, ite2 (fun e1 => ?_) (fun e1 => ?_)⟩⟩
      · have e : heardM L st.row = none := by
          unfold heardM
          rw [if_neg he, if_pos (of_decide_eq_true e1)]
        have := q H1 k1
        rw [e] at this
        exact this
      · refine ⟨_, rfl, rr, _, _, _, rfl, rfl, .inl (.inl hrr), rfl, ?_⟩
        have e : heardM L st.row = some (L.es.getD (leastAt (totals L.es st.row)) ([], 0)).1 := by
          unfold heardM
          rw [if_neg he, if_neg (fun z => e1 (decide_eq_true z))]
        have := q H1 k1
        rw [e] at this
        exact this
end
end Mw


set_option Elab.async false
set_option linter.all false
set_option maxRecDepth 100000
set_option maxHeartbeats 4000000
set_option pp.maxSteps 600
set_option pp.deepTerms false
namespace Mw
open PySem PySem.Spec PyProof.Rows L2
open C8 (Cal pe_c Mak pe_mk)
section
variable {P : Program} {w : World} {K : PySem.W.Frag} {mg : Str → Option Value} {base : Heap}
/-! ### heard_state -/
abbrev NHeardState : List Str := ["listener", "stream", "stand", "letter"]
theorem scHeardState : FnScope NHeardState ["listener", "stream"] (defScope sHeardState) := ⟨rfl, rfl, rfl, by decide +kernel, rfl, by decide +kernel, by decide +kernel⟩
def spHeardState (P : Program) (w : World) (K : PySem.W.Frag) : Sp := fun vs H Q _ => ∃ (a : Addr) (L : Lis) (l : List Nat), vs = [.ref a, .str (tx l)] ∧ ListenerAt K H a L ∧ LisOk L ∧ (∀ c ∈ l, c ∈ alphaL) ∧ l.length ≤ 100000 ∧
  ∀ H' r, Same H H' → StT H' r (runM L.p L.es (startM L.p L.es) l) → Q r H'
theorem oHeardState (T : Txt K mg) : Cal P w K mg base 6 "heard_state" (spHeardState P w K) [] := by
  refine calD (dHeardState_fn T) (gHeardState T) scHeardState (fun vs H Q E h => ?_) (fun _ _ _ _ _ _ us hl => match us, hl with | [_, _], _ => rfl) (fun cdv A outer s H vs Q E hr h => ?_)
  · obtain ⟨a, L, l, rfl, _⟩ := h
    rfl
  · obtain ⟨a, L, l, rfl, hl, ok, hc, hn, q⟩ := h
    refine ⟨_, PSs.nox (pss_cons (ps_expr (pe_c (oNeedText T) hr (by decide) (by rfl) (pa_cons (pv 1) pa_nil)))
       (pss_cons (ps_set (i := 2) scHeardState.nd rfl (.inl rfl) (pe_c (oFirstHeard T) hr (by decide) (by rfl) (pa_cons (pv 0) pa_nil)))
       (pss_cons (ps_for PassesOwn.never rfl (pi_str (pv 1)) (pg_name (i := 3) scHeardState.nd rfl (.inl rfl))
       (pss_one (ps_set (i := 2) scHeardState.nd rfl (.inl rfl) (pe_c (oHeardStep T) hr (by decide) (by rfl) (pa_cons (pv 0) (pa_cons (pv 2) (pa_cons (pv 3) pa_nil)))))))
       (pss_one (ps_ret (pv 2)))))), ?_⟩
    refine ⟨_, rfl, l, rfl, hc, hn, fun H1 k1 => ?_⟩
    refine ⟨_, rfl, a, L, rfl, hl.im (Imm.of_same k1), ok, fun H2 r k2 hr2 => ?_⟩
    refine ⟨_, rfl, tx l, rfl, for_it walk_str (fun i σ H3 => Same H H3 ∧ ∃ v u, σ = [some (.ref a), some (.str (tx l)), some v, u] ∧ StT H3 v (runM L.p L.es (startM L.p L.es) (l.take i))) ⟨Same.trans k1 k2, r, none, rfl, hr2⟩ (fun _ _ _ _ _ => trivial) ?_ ?_⟩
    · rintro i x σ H3 H4 hi ⟨k3, v, u, rfl, hv⟩ ⟨rfl, c, hc2, rfl⟩
      have hlc : l[i]? = some c := by simpa using hc2
      refine ⟨_, rfl, _, rfl, _, rfl, a, L, v, _, c, rfl, hl.im (Imm.of_same k3), ok, hv, runM_ok startM_ok, fun H5 r5 k5 h5 => ?_⟩
      refine ⟨Same.trans k3 k5, r5, _, rfl, ?_⟩
      rw [List.take_add_one, hlc, runM_app]
      exact h5
    · rintro σ H3 ⟨k3, v, u, rfl, hv⟩
      rw [List.take_of_length_le (by simp)] at hv
      exact ⟨_, rfl, q H3 v k3 hv⟩
/-! ### is_heard_state -/
abbrev NIsHeardState : List Str := ["listener", "thing"]
theorem scIsHeardState : FnScope NIsHeardState ["listener", "thing"] (defScope sIsHeardState) := ⟨rfl, rfl, rfl, by decide +kernel, rfl, by decide +kernel, by decide +kernel⟩
def spIsHeardState (P : Program) (w : World) (K : PySem.W.Frag) : Sp := fun vs H Q _ => ∃ (a : Addr) (L : Lis) (v : V) (s : Sta), vs = [.ref a, v] ∧ ListenerAt K H a L ∧ LisOk L ∧ StT H v s ∧ StaOk L.p L.es s ∧ ∀ H', Same H H' → Q (.bl true) H'
theorem oIsHeardState (T : Txt K mg) : Cal P w K mg base 5 "is_heard_state" (spIsHeardState P w K) [] := by
  refine calD (dIsHeardState_fn T) (gIsHeardState T) scIsHeardState (fun vs H Q E h => ?_) (fun _ _ _ _ _ _ us hl => match us, hl with | [_, _], _ => rfl) (fun cdv A outer s H vs Q E hr h => ?_)
  · obtain ⟨a, L, v, s', rfl, _⟩ := h
    rfl
  · obtain ⟨a, L, v, st, rfl, ⟨dl, sp, hl, hsp⟩, ok, hst, sok, q⟩ := h
    refine ⟨_, PSs.nox (pss_one (ps_ret (pe_c (oIsState T) hr (by decide) (by rfl) (pa_cons (pe_pSpeller T hr (by decide) (pv 0)) (pa_cons (pv 1) pa_nil))))), ?_⟩
    exact ⟨.ref a, rfl, gp hl rfl ⟨_, rfl, sp, v, L.p, L.es, st, rfl, hsp, ok.es, hst, sok, q⟩⟩
/-! ### need_heard -/
abbrev NNeedHeard : List Str := ["listener", "thing"]
theorem scNeedHeard : FnScope NNeedHeard ["listener", "thing"] (defScope sNeedHeard) := ⟨rfl, rfl, rfl, by decide +kernel, rfl, by decide +kernel, by decide +kernel⟩
def spNeedHeard (P : Program) (w : World) (K : PySem.W.Frag) : Sp := fun vs H Q _ => ∃ (a : Addr) (L : Lis) (v : V) (s : Sta), vs = [.ref a, v] ∧ ListenerAt K H a L ∧ LisOk L ∧ StT H v s ∧ StaOk L.p L.es s ∧ ∀ H', Same H H' → Q .non H'
theorem oNeedHeard (T : Txt K mg) : Cal P w K mg base 6 "need_heard" (spNeedHeard P w K) [] := by
  refine calD (dNeedHeard_fn T) (gNeedHeard T) scNeedHeard (fun vs H Q E h => ?_) (fun _ _ _ _ _ _ us hl => match us, hl with | [_, _], _ => rfl) (fun cdv A outer s H vs Q E hr h => ?_)
  · obtain ⟨a, L, v, s', rfl, _⟩ := h
    rfl
  · obtain ⟨a, L, v, st, rfl, hl, ok, hst, sok, q⟩ := h
    refine ⟨_, PSs.nox (pss_one (ps_if (pt_not (pt_val (pe_c (oIsHeardState T) hr (by decide) (by rfl) (pa_cons (pv 0) (pa_cons (pv 1) pa_nil)))))
       (pss_one ps_never)
       pss_nil)), ?_⟩
    exact ⟨_, rfl, _, rfl, a, L, v, st, rfl, hl, ok, hst, sok, fun H1 k1 => ⟨true, rfl, iteF (q H1 k1)⟩⟩
/-! ### heard_after -/
abbrev NHeardAfter : List Str := ["listener", "state", "letter"]
theorem scHeardAfter : FnScope NHeardAfter ["listener", "state", "letter"] (defScope sHeardAfter) := ⟨rfl, rfl, rfl, by decide +kernel, rfl, by decide +kernel, by decide +kernel⟩
def spHeardAfter (P : Program) (w : World) (K : PySem.W.Frag) : Sp := fun vs H Q _ => ∃ (a : Addr) (L : Lis) (v : V) (s : Sta) (c : Nat), vs = [.ref a, v, .str (tx [c])] ∧ ListenerAt K H a L ∧ LisOk L ∧ StT H v s ∧ StaOk L.p L.es s ∧ c ∈ alphaL ∧ ∀ H' r, Same H H' → StT H' r (stepM L.p L.es s c) → Q r H'
theorem oHeardAfter (T : Txt K mg) : Cal P w K mg base 7 "heard_after" (spHeardAfter P w K) [] := by
  refine calD (dHeardAfter_fn T) (gHeardAfter T) scHeardAfter (fun vs H Q E h => ?_) (fun _ _ _ _ _ _ us hl => match us, hl with | [_, _, _], _ => rfl) (fun cdv A outer s H vs Q E hr h => ?_)
  · obtain ⟨a, L, v, s', c, rfl, _⟩ := h
    rfl
  · obtain ⟨a, L, v, st, c, rfl, hl, ok, hst, sok, hc, q⟩ := h
    refine ⟨_, PSs.nox (pss_cons (ps_expr (pe_c (oNeedHeard T) hr (by decide) (by rfl) (pa_cons (pv 0) (pa_cons (pv 1) pa_nil))))
       (pss_cons (ps_if (pt_not (pt_val (pe_c (oIsLetter T) hr (by decide) (by rfl) (pa_cons (pv 2) pa_nil))))
       (pss_one ps_never)
       pss_nil)
       (pss_one (ps_ret (pe_c (oHeardStep T) hr (by decide) (by rfl) (pa_cons (pv 0) (pa_cons (pv 1) (pa_cons (pv 2) pa_nil)))))))), ?_⟩
    refine ⟨_, rfl, _, rfl, a, L, v, st, rfl, hl, ok, hst, sok, fun H1 k1 => ?_⟩
    refine ⟨_, rfl, c, rfl, hc, fun H2 k2 => ⟨true, rfl, iteF ?_⟩⟩
    have k := Imm.of_same (Same.trans k1 k2)
    exact ⟨_, rfl, _, rfl, _, rfl, a, L, v, st, c, rfl, hl.im k, ok, hst.im k, sok, fun H3 r k3 hr3 => q H3 r (Same.trans (Same.trans k1 k2) k3) hr3⟩
/-! ### heard -/
abbrev NHeard : List Str := ["listener", "state"]
theorem scHeard : FnScope NHeard ["listener", "state"] (defScope sHeard) := ⟨rfl, rfl, rfl, by decide +kernel, rfl, by decide +kernel, by decide +kernel⟩
def spHeard (P : Program) (w : World) (K : PySem.W.Frag) : Sp := fun vs H Q _ => ∃ (a : Addr) (L : Lis) (v : V) (s : Sta), vs = [.ref a, v] ∧ ListenerAt K H a L ∧ LisOk L ∧ StT H v s ∧ StaOk L.p L.es s ∧ ∀ H', Same H H' → Q (ansV (heardM L s.row)) H'
theorem oHeard (T : Txt K mg) : Cal P w K mg base 7 "heard" (spHeard P w K) [] := by
  refine calD (dHeard_fn T) (gHeard T) scHeard (fun vs H Q E h => ?_) (fun _ _ _ _ _ _ us hl => match us, hl with | [_, _], _ => rfl) (fun cdv A outer s H vs Q E hr h => ?_)
  · obtain ⟨a, L, v, s', rfl, _⟩ := h
    rfl
  · obtain ⟨a, L, v, st, rfl, hl, ok, hst, sok, q⟩ := h
    refine ⟨_, PSs.nox (pss_cons (ps_expr (pe_c (oNeedHeard T) hr (by decide) (by rfl) (pa_cons (pv 0) (pa_cons (pv 1) pa_nil))))
       (pss_one (ps_ret (pe_c (oHeardWord T) hr (by decide) (by rfl) (pa_cons (pv 0) (pa_cons (pv 1) pa_nil)))))), ?_⟩
    refine ⟨_, rfl, _, rfl, a, L, v, st, rfl, hl, ok, hst, sok, fun H1 k1 => ?_⟩
    exact ⟨_, rfl, _, rfl, a, L, v, st, rfl, hl.im (Imm.of_same k1), ok, hst.im (Imm.of_same k1), sok, fun H2 k2 => q H2 (Same.trans k1 k2)⟩
/-! ### l(stream) -/
/-! ### Listener.__call__ -/
abbrev NListenerCall : List Str := ["self", "stream"]
theorem scListenerCall : FnScope NListenerCall ["self", "stream"] (defScope sListenerCall) := ⟨rfl, rfl, rfl, by decide +kernel, rfl, by decide +kernel, by decide +kernel⟩
def spListenerCall (P : Program) (w : World) (K : PySem.W.Frag) : Sp := fun vs H Q _ => ∃ (a : Addr) (L : Lis) (l : List Nat), vs = [.ref a, .str (tx l)] ∧ ListenerAt K H a L ∧ LisOk L ∧ (∀ c ∈ l, c ∈ alphaL) ∧ l.length ≤ 100000 ∧
  ∀ H', Same H H' → Q (ansV (heardM L (runM L.p L.es (startM L.p L.es) l).row)) H'
theorem fnListenerCall (T : Txt K mg) : ∃ fd, FnOk P w K mg base C8.CX0 7 (He.ma K (He.ga K "Listener") "__call__") fd ["self", "stream"] (spListenerCall P w K) ∧ Binds K fd ["self", "stream"] [] := by
  obtain ⟨fd, F⟩ := dListenerCall_fn T
  refine ⟨fd, F.ok scListenerCall (fun vs H Q E h => ?_) (fun cdv A outer s H vs Q E hr h => ?_), F.bindsN (fun _ _ _ _ _ _ us hl => match us, hl with | [_, _], _ => rfl)⟩
  · obtain ⟨a, L, l, rfl, _⟩ := h
    rfl
  · obtain ⟨a, L, l, rfl, hl, ok, hc, hn, q⟩ := h
    refine ⟨_, PSs.nox (pss_one (ps_ret (pe_c (oHeardWord T) hr (by decide) (by rfl) (pa_cons (pv 0) (pa_cons (pe_c (oHeardState T) hr (by decide) (by rfl) (pa_cons (pv 0) (pa_cons (pv 1) pa_nil))) pa_nil))))), ?_⟩
    refine ⟨_, rfl, _, rfl, _, rfl, a, L, l, rfl, hl, ok, hc, hn, fun H1 r k1 hr1 => ?_⟩
    exact ⟨a, L, r, _, rfl, hl.im (Imm.of_same k1), ok, hr1, runM_ok startM_ok, fun H2 k2 => q H2 (Same.trans k1 k2)⟩
/-! ### need_most -/
abbrev NNeedMost : List Str := ["most"]
theorem scNeedMost : FnScope NNeedMost ["most"] (defScope sNeedMost) := ⟨rfl, rfl, rfl, by decide +kernel, rfl, by decide +kernel, by decide +kernel⟩
def spNeedMost (P : Program) (w : World) (K : PySem.W.Frag) : Sp := fun vs H Q _ => vs = [.int 2000] ∧ Q .non H
theorem oNeedMost (T : Txt K mg) : Cal P w K mg base 2 "need_most" (spNeedMost P w K) [] := by
  refine calD (dNeedMost_fn T) (gNeedMost T) scNeedMost (fun vs H Q E h => ?_) (fun _ _ _ _ _ _ us hl => match us, hl with | [_], _ => rfl) (fun cdv A outer s H vs Q E hr h => ?_)
  · rw [h.1]
    rfl
  · obtain ⟨rfl, q⟩ := h
    refine ⟨_, PSs.nox (pss_one (ps_if (PW.pt (pw_or (pt_not (pt_val (pe_c (oIsInteger T) hr (by decide) (by rfl) (pa_cons (pv 0) pa_nil)))) (pw_or1 (pt_not (pt_chain op_le op_le pe_int (pv 0) (pe_glob (by rfl) (c_MOST_ROWS T).choose_spec.1 (c_MOST_ROWS T).choose_spec.2))))))
       (pss_one ps_never)
       pss_nil)), ?_⟩
    refine ⟨_, rfl, 2000, rfl, true, rfl, iteF ?_⟩
    refine ⟨_, rfl, _, _, rfl, rfl, _, rfl, iteD (by decide) ⟨_, _, rfl, rfl, _, rfl, iteND (by decide) q⟩⟩
/-! ### known_letters -/
abbrev NKnownLetters : List Str := ["teller"]
theorem scKnownLetters : FnScope NKnownLetters ["teller"] (defScope sKnownLetters) := ⟨rfl, rfl, rfl, by decide +kernel, rfl, by decide +kernel, by decide +kernel⟩
def spKnownLetters (P : Program) (w : World) (K : PySem.W.Frag) : Sp := fun vs H Q _ => ∃ (a : Addr) (L : Lis), vs = [.ref a] ∧ ListenerAt K H a L ∧ LisOk L ∧ ∀ H', Same H H' → Q (.str (tx (abc L.es))) H'
theorem oKnownLetters (T : Txt K mg) : Cal P w K mg base 4 "known_letters" (spKnownLetters P w K) [] := by
  refine calD (dKnownLetters_fn T) (gKnownLetters T) scKnownLetters (fun vs H Q E h => ?_) (fun _ _ _ _ _ _ us hl => match us, hl with | [_], _ => rfl) (fun cdv A outer s H vs Q E hr h => ?_)
  · obtain ⟨a, L, rfl, _⟩ := h
    rfl
  · obtain ⟨a, L, rfl, ⟨dl, sp, hl, hsp⟩, ok, q⟩ := h
    refine ⟨_, PSs.nox (pss_cons (ps_if (pt_val (pe_callB call_isi (by rfl) (f_isinstance T) (by decide +kernel) (pa_cons (pv 0) (pa_cons (pe_glob (v := .ref (He.ga K "Machine")) (by rfl) (gMachine T) rfl) pa_nil))))
       (pss_one (ps_ret (pe_glob (by rfl) (c_LETTERS T).choose_spec.1 (c_LETTERS T).choose_spec.2)))
       pss_nil)
       (pss_one (ps_ret (pe_c (oLettersOf T) hr (by decide) (by rfl) (pa_cons (pe_ifExp (pt_val (pe_callB call_isi (by rfl) (f_isinstance T) (by decide +kernel) (pa_cons (pv 0) (pa_cons (pe_glob (v := .ref (He.ga K "Listener")) (by rfl) (gListener T) rfl) pa_nil)))) (pe_pSpeller T hr (by decide) (pv 0)) (pv 0)) pa_nil))))), ?_⟩
    refine ⟨_, rfl, .ref a, _, _, _, false, rfl, .own _, tyListener T hl, kitLM T, _, rfl, iteF ?_⟩
    refine ⟨_, rfl, .ref a, _, _, _, true, rfl, .own _, tyListener T hl, kitLL T, _, rfl, iteT ?_⟩
    exact ⟨.ref a, rfl, gp hl rfl ⟨sp, L.p, L.es, rfl, hsp, ok.es, q⟩⟩
end
end Mw


set_option Elab.async false
set_option linter.all false
set_option maxRecDepth 100000
set_option maxHeartbeats 4000000
set_option pp.maxSteps 600
set_option pp.deepTerms false
namespace Mw
open PySem PySem.Spec PyProof.Rows L2
open C8 (Cal pe_c Mak pe_mk)
section
variable {P : Program} {w : World} {K : PySem.W.Frag} {mg : Str → Option Value} {base : Heap}
/-- texts of one sign -/
def sgs (l : List Nat) : List V := l.map fun c => V.str (tx [c])
theorem sgs_join (l : List Nat) : l.flatMap (fun c => [c]) = l := by simp
theorem join_sgs (l : List Nat) : Txt.join ("" : Str) ((l.map fun c => [c]).map tx) = tx l := by rw [join_tx, ← List.flatMap_def, sgs_join]
theorem sgs_str (l : List Nat) : sgs l = (((l.map fun c => [c]).map tx).map V.str) := by
  unfold sgs
  rw [List.map_map, List.map_map]
  rfl
theorem sgs_sum (l : List Nat) : ((((l.map fun c => [c]).map tx)).map (·.length)).sum = l.length := by rw [sum_lens, ← List.flatMap_def, sgs_join]
theorem letters_sub {l : List Nat} : ∀ c ∈ letters l, c ∈ alphaL := fun c h => (mem_letters.mp h).1
/-! ### tried_letters -/
abbrev NTriedLetters : List Str := ["known", "others", "letter"]
theorem scTriedLetters : FnScope NTriedLetters ["known"] (defScope sTriedLetters) := ⟨rfl, rfl, rfl, by decide +kernel, rfl, by decide +kernel, by decide +kernel⟩
def spTriedLetters (P : Program) (w : World) (K : PySem.W.Frag) : Sp := fun vs H Q _ => ∃ l : List Nat, vs = [.str (tx l)] ∧ (∀ c ∈ l, c ∈ alphaL) ∧ l.length ≤ 100 ∧ ∀ H', Same H H' → Q (.str (tx (triedL l))) H'
theorem oTriedLetters (T : Txt K mg) : Cal P w K mg base 1 "tried_letters" (spTriedLetters P w K) [] := by
  refine calD (dTriedLetters_fn T) (gTriedLetters T) scTriedLetters (fun vs H Q E h => ?_) (fun _ _ _ _ _ _ us hl => match us, hl with | [_], _ => rfl) (fun cdv A outer s H vs Q E hr h => ?_)
  · obtain ⟨l, rfl, _⟩ := h
    rfl
  · obtain ⟨l, rfl, hc, hn, q⟩ := h
    refine ⟨_, PSs.nox (pss_cons (ps_setLc (i := 1) (own := [("letter", 2)]) (g := gName 2) rfl scTriedLetters.nd rfl rfl (sw_true rfl rfl rfl (by decide +kernel)) (pi_str (pe_glob (by rfl) (c_LETTERS T).choose_spec.1 (c_LETTERS T).choose_spec.2)) (blkOk_by (own := [("letter", 2)]) (N := NTriedLetters) (sc := defScope sTriedLetters) (by decide +kernel)) (fun _ _ _ _ _ => (pg_name (i := 2) scTriedLetters.nd rfl (.inl rfl))) (fun _ _ _ _ _ => (pts_one (pt_cmpR op_notIn_sign (pv 2) (pv 0) (by rfl)))) (fun _ _ _ _ _ => (pv 2)))
       (pss_one (ps_ret (kJoin K rfl pe_str (pe_callB (cr_sortedSS rfl) (by rfl) (f_sorted T) (by decide +kernel) (pa_cons (pe_callTy (cr_setS rfl) (by rfl) (f_set T) (by decide +kernel) (pa_cons (pe_op op_add_str (pv 0) (kJoin K rfl pe_str (pe_slice (kSlL K rfl) (pv 1) po_none (po_some pe_int)))) pa_nil)) pa_nil)))))), ?_⟩
    have hsz : sizeLine = 16777216 := sizeLine_eq
    have lsz : ("abcdefghijklmnopqrstuvwxyz" : Str).cps.size = 26 := by decide
    let f : Nat → Bool := fun c => decide (c ∉ l)
    refine ⟨_, rfl, fun D hD => lc_gen walk_str noA (fun i ys H2 => ys = sgs ((alphaL.take i).filter f)) hD id (by omega) (fun _ _ _ _ _ _ => trivial) rfl ?_ ?_⟩
    · rintro i x H1 H2 ys hi k rfl ⟨rfl, c, hc2, rfl⟩ eD push skip
      have gi : alphaL[i]? = some c := by
        rw [← ltr_eq]
        simpa using hc2
      refine ⟨rfl, _, rfl, _, rfl, c, _, rfl, rfl, _, rfl, ?_⟩
      have ml : (c ∈ (tx l).cps.toList) ↔ c ∈ l := by simp
      refine ite2 (fun e => ?_) (fun e => ?_)
      · have e2 : c ∉ l := fun z => by rw [decide_eq_true (ml.mpr z)] at e; cases e
        refine ⟨_, rfl, push _ _ Kp.refl ?_⟩
        rw [List.take_add_one, gi]
        show _ = sgs (List.filter f (List.take i alphaL ++ [c]))
        rw [List.filter_append, show List.filter f [c] = [c] by simp [f, e2]]
        unfold sgs
        rw [List.map_append]
        rfl
      · have e2 : c ∈ l := by
          by_cases z : c ∈ l
          · exact z
          · exact absurd (by rw [decide_eq_false fun y => z (ml.mp y)]; rfl) e
        refine skip _ Kp.refl ?_
        rw [List.take_add_one, gi]
        show _ = sgs (List.filter f (List.take i alphaL ++ [c]))
        rw [List.filter_append, show List.filter f [c] = [] by simp [f, e2], List.append_nil]
    · intro H1 ys k eD t
      subst t
      rw [List.take_of_length_le (by rw [lsz]; decide)] at eD
      have hfl : (alphaL.filter f).length ≤ 26 := List.length_filter_le f alphaL
      refine ⟨⟨_, rfl⟩, _, rfl, ⟨_, rfl⟩, _, rfl, 1, rfl, D, _, rfl, .inl (.inl eD), fun p1 np1 => ?_⟩
      have cut : cutV (sgs (alphaL.filter f)) none (some 1) = sgs ((alphaL.filter f).take 1) := by
        unfold cutV sgs
        rw [List.length_map, HT.sIx_none, show HT.sIx (alphaL.filter f).length (alphaL.filter f).length (some 1) = min 1 (alphaL.filter f).length from HT.sIx_nat (alphaL.filter f).length (alphaL.filter f).length 1, List.drop_zero, Nat.sub_zero, List.map_take]
        cases hh : alphaL.filter f with
        | nil => rfl
        | cons x r =>
          rw [show min 1 (x :: r).length = 1 by rw [List.length_cons]; omega]
      rw [cut]
      have ho1 : ((alphaL.filter f).take 1).length ≤ 1 := by rw [List.length_take]; omega
      have hoc : ∀ c ∈ (alphaL.filter f).take 1, c ∈ alphaL := fun c hcm => (List.mem_filter.mp (List.mem_of_mem_take hcm)).1
      generalize ho : (alphaL.filter f).take 1 = o at ho1 hoc ⊢
      refine ⟨_, p1, ((o.map fun c => [c]).map tx), rfl, rfl, .inl (.inl (.inl (by rw [upd_same, sgs_str]))), by rw [sgs_sum]; show _ + _ * 0 ≤ _; omega, ?_⟩
      rw [join_sgs]
      refine ⟨_, _, rfl, rfl, by rw [tx_len, tx_len]; omega, ?_⟩
      rw [tx_app]
      have hall : ∀ c ∈ l ++ o, c ∈ alphaL := fun c hcm => (List.mem_append.mp hcm).elim (hc c) (hoc c)
      refine ⟨_, rfl, by rw [List.length_append]; omega, hall, fun p2 n np2 => ?_⟩
      refine ⟨p2, _, n, rfl, upd_same, hall, fun p3 np3 => ?_⟩
      have h26 := letters_len (l ++ o)
      refine ⟨_, p3, (((letters (l ++ o)).map fun c => [c]).map tx), rfl, rfl, .inl (.inl (.inl ?_)), by rw [sgs_sum]; show _ + _ * 0 ≤ _; omega, ?_⟩
      · rw [upd_same, ← sgs_str]; rfl
      · rw [join_sgs]
        have e : triedL l = letters (l ++ o) := by unfold triedL; rw [← ho]
        rw [← e]
        exact q _ (Same.trans (Same.trans k.toSame (same_upd np1)) (Same.trans (same_upd np2) (same_upd np3)))
theorem abc_len (es : List Ent) : (abc es).length ≤ 26 := letters_len _
theorem abc_sub (es : List Ent) : ∀ c ∈ abc es, c ∈ alphaL := letters_sub
/-! ### signs -/
abbrev NSigns : List Str := ["teller"]
theorem scSigns : FnScope NSigns ["teller"] (defScope sSigns) := ⟨rfl, rfl, rfl, by decide +kernel, rfl, by decide +kernel, by decide +kernel⟩
def spSigns (P : Program) (w : World) (K : PySem.W.Frag) : Sp := fun vs H Q _ => ∃ (a : Addr) (L : Lis), vs = [.ref a] ∧ ListenerAt K H a L ∧ LisOk L ∧ ∀ H', Same H H' → Q (.str (tx (tried L.es))) H'
theorem oSigns (T : Txt K mg) : Cal P w K mg base 5 "signs" (spSigns P w K) [] := by
  refine calD (dSigns_fn T) (gSigns T) scSigns (fun vs H Q E h => ?_) (fun _ _ _ _ _ _ us hl => match us, hl with | [_], _ => rfl) (fun cdv A outer s H vs Q E hr h => ?_)
  · obtain ⟨a, L, rfl, _⟩ := h
    rfl
  · obtain ⟨a, L, rfl, hl, ok, q⟩ := h
    refine ⟨_, PSs.nox (pss_one (ps_ret (pe_c (oTriedLetters T) hr (by decide) (by rfl) (pa_cons (pe_c (oKnownLetters T) hr (by decide) (by rfl) (pa_cons (pv 0) pa_nil)) pa_nil)))), ?_⟩
    have h26 := abc_len L.es
    exact ⟨_, rfl, a, L, rfl, hl, ok, fun H1 k1 => ⟨_, rfl, abc_sub _, by omega, fun H2 k2 => q H2 (Same.trans k1 k2)⟩⟩
/-! ### first_state -/
abbrev NFirstState : List Str := ["teller"]
theorem scFirstState : FnScope NFirstState ["teller"] (defScope sFirstState) := ⟨rfl, rfl, rfl, by decide +kernel, rfl, by decide +kernel, by decide +kernel⟩
def spFirstState (P : Program) (w : World) (K : PySem.W.Frag) : Sp := fun vs H Q _ => ∃ (a : Addr) (L : Lis), vs = [.ref a] ∧ ListenerAt K H a L ∧ LisOk L ∧ ∀ H' r, Same H H' → StT H' r (startM L.p L.es) → Q r H'
theorem oFirstState (T : Txt K mg) : Cal P w K mg base 7 "first_state" (spFirstState P w K) [] := by
  refine calD (dFirstState_fn T) (gFirstState T) scFirstState (fun vs H Q E h => ?_) (fun _ _ _ _ _ _ us hl => match us, hl with | [_], _ => rfl) (fun cdv A outer s H vs Q E hr h => ?_)
  · obtain ⟨a, L, rfl, _⟩ := h
    rfl
  · obtain ⟨a, L, rfl, hli, ok, q⟩ := h
    obtain ⟨dl, sp, hl, hsp⟩ := id hli
    refine ⟨_, PSs.nox (pss_cons (ps_if (pt_val (pe_callB call_isi (by rfl) (f_isinstance T) (by decide +kernel) (pa_cons (pv 0) (pa_cons (pe_glob (v := .ref (He.ga K "Machine")) (by rfl) (gMachine T) rfl) pa_nil))))
       (pss_one (ps_ret pe_int))
       pss_nil)
       (pss_one (ps_ret (pe_ifExp (pt_val (pe_callB call_isi (by rfl) (f_isinstance T) (by decide +kernel) (pa_cons (pv 0) (pa_cons (pe_glob (v := .ref (He.ga K "Listener")) (by rfl) (gListener T) rfl) pa_nil)))) (pe_c (oHeardState T) hr (by decide) (by rfl) (pa_cons (pv 0) (pa_cons pe_str pa_nil))) pe_never)))), ?_⟩
    refine ⟨_, rfl, .ref a, _, _, _, false, rfl, .own _, tyListener T hl, kitLM T, _, rfl, iteF ?_⟩
    refine ⟨_, rfl, .ref a, _, _, _, true, rfl, .own _, tyListener T hl, kitLL T, _, rfl, iteT ?_⟩
    exact ⟨_, rfl, a, L, [], rfl, hli, ok, (fun c hc => by cases hc), Nat.zero_le _, q⟩
/-! ### step_on -/
abbrev NStepOn : List Str := ["teller", "stand", "letter"]
theorem scStepOn : FnScope NStepOn ["teller", "stand", "letter"] (defScope sStepOn) := ⟨rfl, rfl, rfl, by decide +kernel, rfl, by decide +kernel, by decide +kernel⟩
def spStepOn (P : Program) (w : World) (K : PySem.W.Frag) : Sp := spHeardStep P w K
theorem oStepOn (T : Txt K mg) : Cal P w K mg base 6 "step_on" (spStepOn P w K) [] := by
  refine calD (dStepOn_fn T) (gStepOn T) scStepOn (fun vs H Q E h => ?_) (fun _ _ _ _ _ _ us hl => match us, hl with | [_, _, _], _ => rfl) (fun cdv A outer s H vs Q E hr h => ?_)
  · obtain ⟨a, L, v, s', c, rfl, _⟩ := h
    rfl
  · obtain ⟨a, L, v, st, c, rfl, hli, ok, hst, sok, q⟩ := h
    obtain ⟨dl, sp, hl, hsp⟩ := id hli
    refine ⟨_, PSs.nox (pss_cons (ps_if (pt_val (pe_callB call_isi (by rfl) (f_isinstance T) (by decide +kernel) (pa_cons (pv 0) (pa_cons (pe_glob (v := .ref (He.ga K "Machine")) (by rfl) (gMachine T) rfl) pa_nil))))
       (pss_one (ps_ret pe_never))
       pss_nil)
       (pss_one (ps_ret (pe_ifExp (pt_val (pe_callB call_isi (by rfl) (f_isinstance T) (by decide +kernel) (pa_cons (pv 0) (pa_cons (pe_glob (v := .ref (He.ga K "Listener")) (by rfl) (gListener T) rfl) pa_nil)))) (pe_c (oHeardStep T) hr (by decide) (by rfl) (pa_cons (pv 0) (pa_cons (pv 1) (pa_cons (pv 2) pa_nil)))) pe_never)))), ?_⟩
    refine ⟨_, rfl, .ref a, _, _, _, false, rfl, .own _, tyListener T hl, kitLM T, _, rfl, iteF ?_⟩
    refine ⟨_, rfl, .ref a, _, _, _, true, rfl, .own _, tyListener T hl, kitLL T, _, rfl, iteT ?_⟩
    exact ⟨_, rfl, _, rfl, _, rfl, a, L, v, st, c, rfl, hli, ok, hst, sok, q⟩
/-! ### answer_at -/
abbrev NAnswerAt : List Str := ["teller", "stand"]
theorem scAnswerAt : FnScope NAnswerAt ["teller", "stand"] (defScope sAnswerAt) := ⟨rfl, rfl, rfl, by decide +kernel, rfl, by decide +kernel, by decide +kernel⟩
def spAnswerAt (P : Program) (w : World) (K : PySem.W.Frag) : Sp := spHeardWord P w K
theorem oAnswerAt (T : Txt K mg) : Cal P w K mg base 5 "answer_at" (spAnswerAt P w K) [] := by
  refine calD (dAnswerAt_fn T) (gAnswerAt T) scAnswerAt (fun vs H Q E h => ?_) (fun _ _ _ _ _ _ us hl => match us, hl with | [_, _], _ => rfl) (fun cdv A outer s H vs Q E hr h => ?_)
  · obtain ⟨a, L, v, s', rfl, _⟩ := h
    rfl
  · obtain ⟨a, L, v, st, rfl, hli, ok, hst, sok, q⟩ := h
    obtain ⟨dl, sp, hl, hsp⟩ := id hli
    refine ⟨_, PSs.nox (pss_cons (ps_if (pt_val (pe_callB call_isi (by rfl) (f_isinstance T) (by decide +kernel) (pa_cons (pv 0) (pa_cons (pe_glob (v := .ref (He.ga K "Machine")) (by rfl) (gMachine T) rfl) pa_nil))))
       (pss_one (ps_ret pe_never))
       pss_nil)
       (pss_one (ps_ret (pe_ifExp (pt_val (pe_callB call_isi (by rfl) (f_isinstance T) (by decide +kernel) (pa_cons (pv 0) (pa_cons (pe_glob (v := .ref (He.ga K "Listener")) (by rfl) (gListener T) rfl) pa_nil)))) (pe_c (oHeardWord T) hr (by decide) (by rfl) (pa_cons (pv 0) (pa_cons (pv 1) pa_nil))) pe_never)))), ?_⟩
    refine ⟨_, rfl, .ref a, _, _, _, false, rfl, .own _, tyListener T hl, kitLM T, _, rfl, iteF ?_⟩
    refine ⟨_, rfl, .ref a, _, _, _, true, rfl, .own _, tyListener T hl, kitLL T, _, rfl, iteT ?_⟩
    exact ⟨_, rfl, _, rfl, a, L, v, st, rfl, hli, ok, hst, sok, q⟩
end
end Mw


set_option Elab.async false
set_option linter.all false
set_option maxRecDepth 100000
set_option maxHeartbeats 4000000
set_option pp.maxSteps 600
set_option pp.deepTerms false
namespace Mw
open PySem PySem.Spec PyProof.Rows L2
open C8 (Cal pe_c Mak pe_mk)
/-! ### states as keys -/
abbrev keyI (ns : List Int) : NestedKey := .tup (ns.map NestedKey.num)
abbrev keyR (r : List (List Int)) : NestedKey := .tup (r.map keyI)
def keyS (s : Sta) : NestedKey := .tup [keyR s.row, match s.mem with | none => .tup [] | some m => keyR m.1, match s.mem with | none => .text (tx []) | some m => .text (tx [m.2])]
theorem nums_inj : ∀ {a b : List Int}, a.map NestedKey.num = b.map NestedKey.num → a = b
  | [], [], _ => rfl
  | [], _ :: _, h => by simp at h
  | _ :: _, [], h => by simp at h
  | x :: a, y :: b, h => by
    rw [List.map_cons, List.map_cons] at h
    injection h with h1 h2
    injection h1 with h3
    rw [h3, nums_inj h2]
theorem keyI_inj {a b : List Int} (h : keyI a = keyI b) : a = b := by
  injection h with h
  exact nums_inj h
theorem keyRs_inj : ∀ {a b : List (List Int)}, a.map keyI = b.map keyI → a = b
  | [], [], _ => rfl
  | [], _ :: _, h => by simp at h
  | _ :: _, [], h => by simp at h
  | x :: a, y :: b, h => by
    rw [List.map_cons, List.map_cons] at h
    injection h with h1 h2
    rw [keyI_inj h1, keyRs_inj h2]
theorem keyR_inj {a b : List (List Int)} (h : keyR a = keyR b) : a = b := by
  injection h with h
  exact keyRs_inj h
theorem keyS_inj {a b : Sta} (h : keyS a = keyS b) : a = b := by
  obtain ⟨r1, m1⟩ := a
  obtain ⟨r2, m2⟩ := b
  unfold keyS at h
  injection h with h
  injection h with h1 h
  have e1 : r1 = r2 := keyR_inj h1
  subst e1
  injection h with h2 h3
  injection h3 with h3 _
  cases m1 with
  | none =>
    cases m2 with
    | none => rfl
    | some m =>
      injection h3 with h3
      have := tx_inj h3
      cases this
  | some m =>
    cases m2 with
    | none =>
      injection h3 with h3
      have := tx_inj h3
      cases this
    | some n =>
      have e2 : m.1 = n.1 := keyR_inj h2
      injection h3 with h3
      have e3 := tx_inj h3
      injection e3 with e3 _
      have : m = n := Prod.ext e2 e3
      rw [this]
theorem dep_nums : ∀ ns : List Int, NestedKey.depthAll (ns.map NestedKey.num) = 0
  | [] => by simp [NestedKey.depthAll]
  | n :: ns => by
    rw [List.map_cons, NestedKey.depthAll, dep_nums ns]
    simp [NestedKey.depth]
theorem dep_keyRs : ∀ r : List (List Int), NestedKey.depthAll (r.map keyI) ≤ 1
  | [] => by simp [NestedKey.depthAll]
  | n :: ns => by
    have := dep_keyRs ns
    rw [List.map_cons, NestedKey.depthAll, NestedKey.depth, dep_nums]
    omega
theorem dep_keyR (r : List (List Int)) : (keyR r).depth ≤ 2 := by
  have := dep_keyRs r
  rw [NestedKey.depth]
  omega
theorem keyS_dep (s : Sta) : (keyS s).depth ≤ 8 := by
  unfold keyS
  have h1 := dep_keyR s.row
  cases hm : s.mem with
  | none =>
    rw [NestedKey.depth, NestedKey.depthAll, NestedKey.depthAll, NestedKey.depthAll, NestedKey.depthAll]
    have h3 : (NestedKey.text (tx [])).depth = 0 := by simp [NestedKey.depth]
    have h4 : (NestedKey.tup []).depth = 1 := by simp [NestedKey.depth, NestedKey.depthAll]
    show max (keyR s.row).depth (max (NestedKey.tup []).depth (max (NestedKey.text (tx [])).depth 0)) + 1 ≤ 8
    omega
  | some m =>
    have h2 := dep_keyR m.1
    rw [NestedKey.depth, NestedKey.depthAll, NestedKey.depthAll, NestedKey.depthAll, NestedKey.depthAll]
    have h3 : (NestedKey.text (tx [m.2])).depth = 0 := by simp [NestedKey.depth]
    show max (keyR s.row).depth (max (keyR m.1).depth (max (NestedKey.text (tx [m.2])).depth 0)) + 1 ≤ 8
    omega
theorem keyS_tup (s : Sta) : ∃ ks, keyS s = .tup ks := ⟨_, rfl⟩
theorem nk_nums {H : Hp} : ∀ ns : List Int, NkAll H (ns.map NestedKey.num) (ns.map V.int)
  | [] => .nil
  | n :: ns => .cons (.int n) (nk_nums ns)
theorem TupI.nk {H : Hp} {v : V} {ns : List Int} (h : TupI H v ns) : Nk H (keyI ns) v := by
  obtain ⟨a, rfl, e⟩ := h
  exact .tup e (nk_nums ns)
theorem nk_rows {H : Hp} : ∀ {vs : List V} {r : List (List Int)}, Paired (TupI H) vs r → NkAll H (r.map keyI) vs
  | _, _, .nil => .nil
  | _, _, .cons h t => .cons h.nk (nk_rows t)
theorem RowT.nk {H : Hp} {v : V} {r : List (List Int)} (h : RowT H v r) : Nk H (keyR r) v := by
  obtain ⟨a, vs, rfl, e, p⟩ := h
  exact .tup e (nk_rows p)
theorem StT.nk {H : Hp} {v : V} {s : Sta} (h : StT H v s) : Nk H (keyS s) v := by
  obtain ⟨a, r, m, u, rfl, e, hr, hm⟩ := h
  unfold keyS
  refine .tup e (.cons hr.nk ?_)
  cases hmm : s.mem with
  | none =>
    rw [hmm] at hm
    obtain ⟨⟨b, rfl, eb⟩, rfl⟩ := hm
    exact .cons (.tup eb .nil) (.cons (.str _) .nil)
  | some q =>
    rw [hmm] at hm
    obtain ⟨h1, rfl⟩ := hm
    exact .cons h1.nk (.cons (.str _) .nil)
theorem NDict.im {P : Program} {w : World} {H H' : Hp} {a : Addr} {kvs : List (NestedKey × V)} (d : NDict P w H a kvs) (e : H' a = H a) (k : Imm H H') : NDict P w H' a kvs := by
  obtain ⟨xs, h1, h2, h3⟩ := d
  exact ⟨xs, e.trans h1, h2, fun x hx => ⟨Nk.at (fun b zs eb => k.tup eb) _ _ (h3 x hx).1, (h3 x hx).2⟩⟩
theorem NDict.at {P : Program} {w : World} {H : Hp} {a : Addr} {kvs : List (NestedKey × V)} (d : NDict P w H a kvs) : ∃ φ, H a = some (.ext φ) := by
  obtain ⟨xs, h1, _⟩ := d
  exact ⟨_, h1⟩
theorem NDict.same {P : Program} {w : World} {H H' : Hp} {a : Addr} {kvs : List (NestedKey × V)} (d : NDict P w H a kvs) (s : Same H H') : NDict P w H' a kvs := by
  obtain ⟨φ, e⟩ := d.at
  exact d.im ((s _ _ e).trans e.symm) (Imm.of_same s)
abbrev knK (fs : List Sta) : List (NestedKey × V) := fs.map fun s => (keyS s, V.bl true)
theorem valN_kn (fs : List Sta) (s : Sta) : (valN (knK fs) (keyS s)).isSome = decide (s ∈ fs) := by
  by_cases h : s ∈ fs
  · rw [decide_eq_true h]
    cases e : valN (knK fs) (keyS s) with
    | some v => rfl
    | none =>
      have := valN_none.mp e
      exact absurd (List.mem_map.mpr ⟨(keyS s, V.bl true), List.mem_map.mpr ⟨s, h, rfl⟩, rfl⟩) this
  · rw [decide_eq_false h]
    have : valN (knK fs) (keyS s) = none := by
      refine valN_none.mpr fun m => ?_
      obtain ⟨q, hq, e⟩ := List.mem_map.mp m
      obtain ⟨x, hx, rfl⟩ := List.mem_map.mp hq
      exact h (keyS_inj e ▸ hx)
    rw [this]
    rfl
/-- an item of found: a state and a text -/
def FoundT (B : Nat) (H : Hp) (v : V) (s : Sta) : Prop := ∃ a u l, v = .ref a ∧ H a = some (.tup [u, .str (tx l)]) ∧ StT H u s ∧ l.length < B
theorem FoundT.im {B B' : Nat} {H H' : Hp} {v : V} {s : Sta} (h : FoundT B H v s) (k : Imm H H') (hb : B ≤ B') : FoundT B' H' v s := by
  obtain ⟨a, u, l, e1, e2, e3, e4⟩ := h
  exact ⟨a, u, l, e1, k.tup e2, e3.im k, by omega⟩
section
variable {P : Program} {w : World} {K : PySem.W.Frag} {mg : Str → Option Value} {base : Heap}
/-! ### walks -/
abbrev NWalks : List Str := ["teller", "most", "found", "tried", "known", "at", "stand", "text", "letter", "goal"]
theorem scWalks : FnScope NWalks ["teller", "most"] (defScope sWalks) := ⟨rfl, rfl, rfl, by decide +kernel, rfl, by decide +kernel, by decide +kernel⟩
def spWalks (P : Program) (w : World) (K : PySem.W.Frag) : Sp := fun vs H Q _ => ∃ (a : Addr) (L : Lis) (M : List Sta), vs = [.ref a, .int 2000] ∧ ListenerAt K H a L ∧ LisOk L ∧ Closed L.p L.es M ∧ M.length ≤ 2000 ∧
  ∀ H' f ys, Same H H' → H f = none → H' f = some (.lst ys) → Paired (FoundT 2001 H') ys (allM L.p L.es) → Q (.ref f) H'
theorem oWalks (T : Txt K mg) : Cal P w K mg base 8 "walks" (spWalks P w K) [] := by
  refine calD (dWalks_fn T) (gWalks T) scWalks (fun vs H Q E h => ?_) (fun _ _ _ _ _ _ us hl => match us, hl with | [_, _], _ => rfl) (fun cdv A outer s H vs Q E hr h => ?_)
  · obtain ⟨a, L, M, rfl, _⟩ := h
    rfl
  · obtain ⟨a, L, M, rfl, hl, ok, cl, hM, q⟩ := h
    refine ⟨_, PSs.nox (pss_cons (ps_par (i := 2) (j := 3) (by rfl) scWalks.nd rfl rfl (by decide) rfl rfl (pa_cons (pe_lst (pa_cons (pe_tup (pa_cons (pe_c (oFirstState T) hr (by decide) (by rfl) (pa_cons (pv 0) pa_nil)) (pa_cons pe_str pa_nil))) pa_nil)) (pa_cons (pe_c (oSigns T) hr (by decide) (by rfl) (pa_cons (pv 0) pa_nil)) pa_nil)) (by rfl))
       (pss_cons (ps_par (i := 4) (j := 5) (by rfl) scWalks.nd rfl rfl (by decide) rfl rfl (pa_cons (pe_disp1N hr.units (pe_ix (kIxT K rfl) (pe_ix (kIxL K rfl) (pv 2) pe_int (fun _ _ => rfl)) pe_int (fun _ _ => rfl)) pe_bl) (pa_cons pe_int pa_nil)) (by rfl))
       (pss_cons (ps_while PassesOwn.never (pt_cmpR op_lt (pv 5) (pe_callB (kLen K rfl) (by rfl) (f_len T) (by decide +kernel) (pa_cons (pv 2) pa_nil)) (nomark _))
       (pss_cons (ps_asg (pe_ix (kIxL K rfl) (pv 2) (pv 5) (fun _ _ => rfl)) (pg_tup rfl (pgs_cons (pg_name (i := 6) scWalks.nd rfl (.inl rfl)) (pgs_cons (pg_name (i := 7) scWalks.nd rfl (.inl rfl)) pgs_nil))))
       (pss_cons (ps_for PassesOwn.never rfl (pi_str (pv 3)) (pg_name (i := 8) scWalks.nd rfl (.inl rfl))
       (pss_cons (ps_set (i := 9) scWalks.nd rfl (.inl rfl) (pe_c (oStepOn T) hr (by decide) (by rfl) (pa_cons (pv 0) (pa_cons (pv 6) (pa_cons (pv 8) pa_nil)))))
       (pss_one (ps_if (pt_cmp (pc_ndnotin hr.units (pv 9) (pv 4)))
       (pss_cons (ps_if (pt_cmpR op_eq (pe_callB (kLen K rfl) (by rfl) (f_len T) (by decide +kernel) (pa_cons (pv 2) pa_nil)) (pv 1) (nomark _))
       (pss_one ps_never)
       pss_nil)
       (pss_cons (ps_ndput hr.units (pv 4) (pv 9) pe_bl rfl)
       (pss_one (ps_expr (pe_bm PySem.F.plainAttrs_list PySem.F.slot_list_append PySem.F.type_list_append mt_append (pv 2) (pa_cons (pe_tup (pa_cons (pv 9) (pa_cons (pe_op op_add_str (pv 7) (pv 8)) pa_nil))) pa_nil))))))
       pss_nil))))
       (pss_one (ps_aug (i := 5) scWalks.nd rfl (.inl rfl) pe_int ip_add)))))
       (pss_one (ps_ret (pv 2)))))), ?_⟩
    have hsz : sizeLine = 16777216 := sizeLine_eq
    -- found, tried
    refine ⟨_, rfl, a, L, rfl, hl, ok, fun H1 v0 k1 hv0 => ?_⟩
    refine ⟨by show 2 ≤ sizeLine; omega, fun t nt => ⟨by show 1 ≤ sizeLine; omega, fun f nf => ?_⟩⟩
    have estr : ("" : Str) = tx [] := rfl
    rw [estr] at nf ⊢
    have k2 := Same.trans k1 (Same.trans (same_upd (o := .tup [v0, .str (tx [])]) nt) (same_upd (o := .lst [.ref t]) nf))
    have i2 : Imm H1 (upd (upd H1 t (.tup [v0, .str (tx [])])) f (.lst [.ref t])) := (Imm.new nt).trans (Imm.new nf)
    have hf2 : (upd (upd H1 t (.tup [v0, .str (tx [])])) f (.lst [.ref t])) f = some (.lst [.ref t]) := upd_same
    have ht2 : (upd (upd H1 t (.tup [v0, .str (tx [])])) f (.lst [.ref t])) t = some (.tup [v0, .str (tx [])]) := (Imm.new nf).tup upd_same
    have hv2 := hv0.im i2
    have nfH : H f = none := by
      cases e : H f with
      | none => rfl
      | some o =>
        have h1 := k1 _ _ e
        have h2 := same_upd (o := .tup [v0, .str (tx [])]) nt _ _ h1
        rw [nf] at h2
        cases h2
    generalize (upd (upd H1 t (.tup [v0, .str (tx [])])) f (.lst [.ref t])) = H2 at k2 hf2 ht2 hv2 ⊢
    refine ⟨_, rfl, a, L, rfl, hl.im (Imm.of_same k2), ok, fun H3 k3 => ⟨_, _, rfl, ?_⟩⟩
    have k03 := Same.trans k2 k3
    have hf3 := k3 _ _ hf2
    have ht3 := k3 _ _ ht2
    have hv3 := hv2.im (Imm.of_same k3)
    -- known, at
    refine fun d nd φ hd0 => ?_
    have k34 := same_upd (o := .ext φ) nd
    refine ⟨_, rfl, f, _, _, _, rfl, rfl, .inl (.inl (k34 _ _ hf3)), rfl, t, _, _, _, rfl, rfl, .inl (.inl (k34 _ _ ht3)), rfl, ?_⟩
    refine ⟨upd_same, _, (hv3.im (Imm.new nd)).nk, keyS_tup _, keyS_dep _, fun ψ hd1 => ⟨_, _, rfl, ?_⟩⟩
    have nfd : f ≠ d := ne_of_none hf3 nd
    have ndH : H d = none := by
      cases e : H d with
      | none => rfl
      | some o =>
        have h1 := k03 _ _ e
        rw [nd] at h1
        cases h1
    have k04 : Same H (upd (upd H3 d (.ext φ)) d (.ext ψ)) := Same.wr (Same.trans k03 k34) ndH
    have i34 : Imm H3 (upd (upd H3 d (.ext φ)) d (.ext ψ)) := (Imm.new nd).trans (Imm.wr upd_same (fun z => z))
    have hf4 : (upd (upd H3 d (.ext φ)) d (.ext ψ)) f = some (.lst [.ref t]) := (upd_ne nfd).trans ((upd_ne nfd).trans hf3)
    have hfd : Paired (FoundT 1 (upd (upd H3 d (.ext φ)) d (.ext ψ))) [.ref t] (bfsN L.p L.es 0) := .cons ⟨t, v0, [], rfl, i34.tup ht3, hv3.im i34, by show 0 < 1; omega⟩ .nil
    generalize (upd (upd H3 d (.ext φ)) d (.ext ψ)) = H4 at k04 hf4 hfd hd1 ⊢
    -- while
    refine ⟨fun m σ H5 => ∃ k x6 x7 x8 x9 ys, m = 2001 - k ∧ σ = [some (.ref a), some (.int 2000), some (.ref f), some (.str (tx (tried L.es))), some (.ref d), some (.int ((k : Nat) : Int)), x6, x7, x8, x9] ∧ Same H H5 ∧ H5 f = some (.lst ys) ∧
      Paired (FoundT (bfsN L.p L.es k).length H5) ys (bfsN L.p L.es k) ∧ NDict P w H5 d (knK (bfsN L.p L.es k)) ∧ k ≤ (bfsN L.p L.es k).length, ⟨_, 0, none, none, none, none, _, rfl, rfl, k04, hf4, hfd, hd1, Nat.zero_le _⟩, ?_⟩
    rintro m σ H5 ⟨k, x6, x7, x8, x9, ys, rfl, rfl, k05, hf5, hp5, hd5, hk⟩
    have hfn := fnd_bfs cl k
    have hlen := hfn.len
    have hyl : ys.length = (bfsN L.p L.es k).length := Paired.length hp5
    refine ⟨_, rfl, _, rfl, f, ys, rfl, .inl (.inl (.inl hf5)), _, _, rfl, rfl, _, rfl, ite2 (fun e => ?_) (fun e => ?_)⟩
    · have hlt : k < (bfsN L.p L.es k).length := by have := of_decide_eq_true e; omega
      obtain ⟨st, hst⟩ : ∃ st, (bfsN L.p L.es k)[k]? = some st := ⟨_, List.getElem?_eq_getElem hlt⟩
      have hms := List.mem_of_getElem? hst
      obtain ⟨v, hv, b, u, l, rfl, hb, hu2, hll⟩ := Paired.get hp5 hst
      have hnext : bfsN L.p L.es (k + 1) = visit L.p L.es (bfsN L.p L.es k) st (tried L.es) := by
        show (match (bfsN L.p L.es k)[k]? with
          | some s => visit L.p L.es (bfsN L.p L.es k) s (tried L.es)
          | none => bfsN L.p L.es k) = _
        rw [hst]
      refine ⟨fun σ' H' => ∃ x6 x7 x8 x9 ys, σ' = [some (.ref a), some (.int 2000), some (.ref f), some (.str (tx (tried L.es))), some (.ref d), some (.int ((k + 1 : Nat) : Int)), x6, x7, x8, x9] ∧ Same H H' ∧ H' f = some (.lst ys) ∧
        Paired (FoundT (bfsN L.p L.es (k + 1)).length H') ys (bfsN L.p L.es (k + 1)) ∧ NDict P w H' d (knK (bfsN L.p L.es (k + 1))) ∧ k + 1 ≤ (bfsN L.p L.es (k + 1)).length, fun σ' H' hN => ?_, ?_⟩
      · obtain ⟨y6, y7, y8, y9, ys', e1, e2⟩ := hN
        exact ⟨2001 - (k + 1), by omega, k + 1, y6, y7, y8, y9, ys', rfl, e1, e2⟩
      refine ⟨_, rfl, _, rfl, f, ys, _, .ref b, rfl, rfl, .inl (.inl hf5), atI_nat hv, b, _, rfl, .inl (.inl hb), rfl, _, _, rfl, _, _, rfl, rfl, ?_⟩
      have hcs : ∀ j, ∀ c ∈ (tried L.es).take j, c ∈ tried L.es := fun j c hc => List.mem_of_mem_take hc
      refine ⟨_, rfl, tx (tried L.es), rfl, for_it walk_str (fun j σ H6 => ∃ x8 x9 zs, σ = [some (.ref a), some (.int 2000), some (.ref f), some (.str (tx (tried L.es))), some (.ref d), some (.int ((k : Nat) : Int)), some u, some (.str (tx l)), x8, x9] ∧ Same H H6 ∧ Imm H5 H6 ∧ H6 f = some (.lst zs) ∧
        Paired (FoundT (visit L.p L.es (bfsN L.p L.es k) st ((tried L.es).take j)).length H6) zs (visit L.p L.es (bfsN L.p L.es k) st ((tried L.es).take j)) ∧ NDict P w H6 d (knK (visit L.p L.es (bfsN L.p L.es k) st ((tried L.es).take j))))
        ⟨x8, x9, ys, rfl, k05, Imm.refl, hf5, hp5, hd5⟩ (fun _ _ _ _ _ => trivial) ?_ ?_⟩
      · rintro j x σ H6 H7 hj ⟨y8, y9, zs, rfl, k06, i56, hf6, hp6, hd6⟩ ⟨rfl, c, hc, rfl⟩
        have gj : (tried L.es)[j]? = some c := by simpa using hc
        have hct := List.mem_of_getElem? gj
        have hvf := hfn.visit cl (cs := (tried L.es).take j) hms (hcs j)
        obtain ⟨gs, hgs⟩ := visit_ext (p := L.p) (es := L.es) (s := st) (cs := (tried L.es).take j) (fs := bfsN L.p L.es k)
        have hst2 : st ∈ visit L.p L.es (bfsN L.p L.es k) st ((tried L.es).take j) := by rw [hgs]; exact List.mem_append_left _ hms
        have hlt2 : (bfsN L.p L.es k).length ≤ (visit L.p L.es (bfsN L.p L.es k) st ((tried L.es).take j)).length := by rw [hgs, List.length_append]; omega
        have eq1 : visit L.p L.es (bfsN L.p L.es k) st ((tried L.es).take (j + 1)) = visit1 L.p L.es st (visit L.p L.es (bfsN L.p L.es k) st ((tried L.es).take j)) c := by
          rw [List.take_add_one, gj]
          exact visit_app
        rw [eq1]
        have hvf2 := hvf.visit1 cl hst2 hct
        have hlen2 := hvf2.len
        generalize visit L.p L.es (bfsN L.p L.es k) st ((tried L.es).take j) = V0 at hp6 hd6 hvf hst2 hlt2 hvf2 hlen2 ⊢
        have sok := hvf.ok st hst2
        refine ⟨_, rfl, _, rfl, _, rfl, a, L, u, st, c, rfl, hl.im (Imm.of_same k06), ok, hu2.im i56, sok, fun H8 g k8 hg => ?_⟩
        have k08 := Same.trans k06 k8
        have i58 := i56.trans (Imm.of_same k8)
        have hf8 := k8 _ _ hf6
        have hd8 := hd6.same k8
        have hp8 := Paired.mapP hp6 fun _ _ z => z.im (Imm.of_same k8) (Nat.le_refl _)
        have hzl : zs.length = V0.length := Paired.length hp6
        refine ⟨_, rfl, _, rfl, d, _, _, rfl, hd8, hg.nk, keyS_tup _, keyS_dep _, _, rfl, ?_⟩
        rw [valN_kn]
        refine ite2 (fun en => ?_) (fun en => ?_)
        · have hnew : stepM L.p L.es st c ∉ V0 := fun z => by rw [decide_eq_true z] at en; cases en
          have ev : visit1 L.p L.es st V0 c = V0 ++ [stepM L.p L.es st c] := if_neg hnew
          rw [ev] at hlen2 ⊢
          rw [List.length_append, List.length_singleton] at hlen2
          refine ⟨_, rfl, f, zs, rfl, .inl (.inl (.inl hf8)), _, rfl, rfl, _, rfl, iteDn (fun z => by have := V.int.inj z; omega) ?_⟩
          have hvn : valN (knK V0) (keyS (stepM L.p L.es st c)) = none := by
            cases q0 : valN (knK V0) (keyS (stepM L.p L.es st c)) with
            | none => rfl
            | some v =>
              have := valN_kn V0 (stepM L.p L.es st c)
              rw [q0, decide_eq_false hnew] at this
              cases this
          refine ⟨_, rfl, _, rfl, d, _, _, rfl, hd8, hg.nk, keyS_tup _, keyS_dep _, hvn, by rw [List.length_map]; omega, fun φ2 hd9 => ?_⟩
          obtain ⟨φ1, ed8⟩ := hd8.at
          have nfd2 : f ≠ d := ne_of hf8 ed8 (by intro z; cases z)
          have i89 : Imm H8 (upd H8 d (.ext φ2)) := Imm.wr ed8 (fun z => z)
          have hf9 : (upd H8 d (.ext φ2)) f = some (.lst zs) := (upd_ne nfd2).trans hf8
          refine ⟨_, rfl, .inl ⟨rfl, _, .inl (.inl hf9)⟩, _, rfl, _, rfl, _, rfl, _, _, rfl, rfl, by rw [tx_len, tx_len]; show _ + 1 ≤ _; omega, by show 2 ≤ sizeLine; omega, fun t9 nt9 => ?_⟩
          rw [tx_app]
          have hfA : (upd (upd H8 d (.ext φ2)) t9 (.tup [g, .str (tx (l ++ [c]))])) f = some (.lst zs) := (upd_ne (ne_of_none hf9 nt9)).trans hf9
          have iA : Imm H8 (upd (upd H8 d (.ext φ2)) t9 (.tup [g, .str (tx (l ++ [c]))])) := i89.trans (Imm.new nt9)
          have edA : (upd (upd H8 d (.ext φ2)) t9 (.tup [g, .str (tx (l ++ [c]))])) d = (upd H8 d (.ext φ2)) d := upd_ne (ne_of_none upd_same nt9)
          have hdA : NDict P w (upd (upd H8 d (.ext φ2)) t9 (.tup [g, .str (tx (l ++ [c]))])) d _ := hd9.im edA (Imm.new nt9)
          have htA : (upd (upd H8 d (.ext φ2)) t9 (.tup [g, .str (tx (l ++ [c]))])) t9 = some (.tup [g, .str (tx (l ++ [c]))]) := upd_same
          have kA : Same H (upd (upd H8 d (.ext φ2)) t9 (.tup [g, .str (tx (l ++ [c]))])) := Same.trans (Same.wr k08 ndH) (same_upd nt9)
          generalize (upd (upd H8 d (.ext φ2)) t9 (.tup [g, .str (tx (l ++ [c]))])) = HA at hfA iA hdA htA kA ⊢
          refine ⟨f, _, _, rfl, rfl, hfA, by omega, ?_⟩
          have iB : Imm HA (upd HA f (.lst (zs ++ [.ref t9]))) := Imm.wr hfA (fun z => z)
          refine ⟨_, _, zs ++ [.ref t9], rfl, Same.wr kA nfH, i58.trans (iA.trans iB), upd_same, ?_, ?_⟩
          · refine Paired.snoc ⟨t9, g, l ++ [c], rfl, iB.tup htA, hg.im (iA.trans iB), ?_⟩ (Paired.mapP hp8 fun _ _ z => z.im (iA.trans iB) (by rw [List.length_append]; omega))
            rw [List.length_append, List.length_append]
            show l.length + 1 < V0.length + 1
            omega
          · have := hdA.im (H' := upd HA f (.lst (zs ++ [.ref t9]))) (upd_ne nfd2.symm) iB
            rw [show knK (V0 ++ [stepM L.p L.es st c]) = knK V0 ++ [(keyS (stepM L.p L.es st c), V.bl true)] from List.map_append ..]
            exact this
        · have hold : stepM L.p L.es st c ∈ V0 := by
            by_cases z : stepM L.p L.es st c ∈ V0
            · exact z
            · exact absurd (by rw [decide_eq_false z]; rfl) en
          have ev : visit1 L.p L.es st V0 c = V0 := if_pos hold
          rw [ev]
          exact ⟨_, _, zs, rfl, k08, i58, hf8, hp8, hd8⟩
      · rintro σ H6 ⟨y8, y9, zs, rfl, k06, i56, hf6, hp6, hd6⟩
        rw [List.take_of_length_le (by simp), ← hnext] at hp6 hd6
        refine ⟨_, rfl, _, _, rfl, rfl, _, _, _, _, zs, rfl, k06, hf6, hp6, hd6, ?_⟩
        obtain ⟨gs, hgs⟩ := visit_ext (p := L.p) (es := L.es) (s := st) (cs := tried L.es) (fs := bfsN L.p L.es k)
        rw [hnext, hgs, List.length_append]
        omega
    · have hge : (bfsN L.p L.es k).length ≤ k := by
        have h1 : ¬ (((k : Nat) : Int) < (ys.length : Int)) := fun z => e (decide_eq_true z)
        omega
      have eall : allM L.p L.es = bfsN L.p L.es k := allM_of hge (by omega)
      refine ⟨_, rfl, q H5 f ys k05 nfH hf5 ?_⟩
      rw [eall]
      exact Paired.mapP hp5 fun _ _ z => z.im Imm.refl (by omega)
end
end Mw


set_option Elab.async false
set_option linter.all false
set_option maxRecDepth 100000
set_option maxHeartbeats 4000000
set_option pp.maxSteps 600
set_option pp.deepTerms false
namespace Mw
open PySem PySem.Spec PyProof.Rows L2
open C8 (Cal pe_c Mak pe_mk)
theorem mergeK_new : ∀ (more kvs : List (Key × V)), ((kvs ++ more).map (·.1)).Nodup → mergeK kvs more = kvs ++ more
  | [], kvs, _ => by rw [List.append_nil]; rfl
  | p :: more, kvs, h => by
    have e : kvs ++ p :: more = (kvs ++ [p]) ++ more := by rw [List.append_assoc]; rfl
    have hn : valV kvs p.1 = none := by
      cases q : valV kvs p.1 with
      | none => rfl
      | some v =>
        have hm := valV_in q
        rw [List.map_append, List.nodup_append] at h
        exact absurd rfl (h.2.2 p.1 hm p.1 (by rw [List.map_cons]; exact List.mem_cons_self ..))
    show mergeK (putK kvs p.1 p.2) more = _
    rw [putK_new p.2 hn, mergeK_new more (kvs ++ [(p.1, p.2)]) (by rw [← e]; exact h), e]
/-- the dict of the states' numbers -/
def numK (fs : List Sta) : List (NestedKey × V) := fs.zipIdx.map fun q => (keyS q.1, .int ((q.2 : Nat) : Int))
theorem numK_get_aux : ∀ (fs : List Sta) (n : Nat) (s : Sta), s ∈ fs → valN ((fs.zipIdx n).map fun q => (keyS q.1, V.int ((q.2 : Nat) : Int))) (keyS s) = some (.int ((n + ixOf fs s : Nat) : Int))
  | [], n, s, h => by cases h
  | x :: fs, n, s, h => by
    rw [List.zipIdx_cons, List.map_cons, valN_cons]
    unfold ixOf
    by_cases e : x = s
    · rw [if_pos (congrArg keyS e), if_pos e]
      rfl
    · rw [if_neg (fun z => e (keyS_inj z)), if_neg e]
      rcases List.mem_cons.mp h with z | z
      · exact absurd z.symm e
      · rw [numK_get_aux fs (n + 1) s z]
        congr 3
        omega
theorem numK_get {fs : List Sta} {s : Sta} (h : s ∈ fs) : valN (numK fs) (keyS s) = some (.int ((ixOf fs s : Nat) : Int)) := by
  have := numK_get_aux fs 0 s h
  rw [Nat.zero_add] at this
  exact this
/-- the dict of a state's goals -/
def goK (fs : List Sta) (p : Pr) (es : List Ent) (s : Sta) (cs : List Nat) : List (Key × V) := cs.map fun c => (Sum.inr (tx [c]), .int ((ixOf fs (stepM p es s c) : Nat) : Int))
theorem goK_get {fs : List Sta} {p : Pr} {es : List Ent} {s : Sta} {c : Nat} : ∀ {cs : List Nat}, valV (goK fs p es s cs) (Sum.inr (tx [c])) = if c ∈ cs then some (.int ((ixOf fs (stepM p es s c) : Nat) : Int)) else none
  | [] => rfl
  | d :: cs => by
    unfold goK
    rw [List.map_cons]
    by_cases e : d = c
    · rw [valV_pos (by rw [e]), if_pos (by rw [e]; exact List.mem_cons_self ..), e]
    · have ne : ¬ (Sum.inr (tx [d]) : Key) = Sum.inr (tx [c]) := fun z => e (List.head_eq_of_cons_eq (tx_inj (Sum.inr.inj z)))
      rw [valV_neg ne]
      have ih := goK_get (fs := fs) (p := p) (es := es) (s := s) (c := c) (cs := cs)
      unfold goK at ih
      rw [ih]
      by_cases h : c ∈ cs
      · rw [if_pos h, if_pos (List.mem_cons_of_mem _ h)]
      · rw [if_neg h, if_neg fun z => (List.mem_cons.mp z).elim (fun y => e y.symm) h]
theorem goK_nd {fs : List Sta} {p : Pr} {es : List Ent} {s : Sta} : ∀ {cs : List Nat}, cs.Nodup → ((goK fs p es s cs).map (·.1)).Nodup
  | [], _ => List.nodup_nil
  | d :: cs, h => by
    obtain ⟨h1, h2⟩ := List.nodup_cons.mp h
    unfold goK
    rw [List.map_cons, List.map_cons]
    refine List.nodup_cons.mpr ⟨fun z => ?_, goK_nd h2⟩
    obtain ⟨q, hq, e⟩ := List.mem_map.mp z
    obtain ⟨c, hc, rfl⟩ := List.mem_map.mp hq
    have : c = d := List.head_eq_of_cons_eq (tx_inj (Sum.inr.inj e))
    exact h1 (this ▸ hc)
def TupN (H : Hp) (v : V) (ns : List Nat) : Prop := TupI H v (ns.map fun (n : Nat) => (n : Int))
theorem TupN.im {H H' : Hp} {v : V} {ns : List Nat} (h : TupN H v ns) (k : Imm H H') : TupN H' v ns := TupI.im h k
/-- a pair of a state and its number -/
def NumT (H : Hp) (v : V) (q : Sta × Nat) : Prop := ∃ a u, v = .ref a ∧ H a = some (.tup [u, .int ((q.2 : Nat) : Int)]) ∧ StT H u q.1
theorem NumT.im {H H' : Hp} {v : V} {q : Sta × Nat} (h : NumT H v q) (k : Imm H H') : NumT H' v q := by
  obtain ⟨a, u, e1, e2, e3⟩ := h
  exact ⟨a, u, e1, k.tup e2, e3.im k⟩
def GoT (H : Hp) (v : V) (kv : Key × V) : Prop := ∃ a, v = .ref a ∧ H a = some (.tup [kV kv.1, kv.2])
theorem GoT.im {H H' : Hp} {v : V} {q : Key × V} (h : GoT H v q) (k : Imm H H') : GoT H' v q := by
  obtain ⟨a, e1, e2⟩ := h
  exact ⟨a, e1, k.tup e2⟩
theorem go_dict {K : PySem.W.Frag} {H : Hp} : ∀ {ys : List V} {qs : List (Key × V)}, Paired (GoT H) ys qs → ∃ ps : List Addr, ys = ps.map V.ref ∧ Paired (fun p (kv : Key × V) => SqT K H p [kV kv.1, kv.2]) ps qs
  | _, _, .nil => ⟨[], rfl, .nil⟩
  | _, _, .cons h t => by
    obtain ⟨ps, e1, e2⟩ := go_dict (K := K) t
    obtain ⟨a, rfl, ha⟩ := h
    exact ⟨a :: ps, by rw [e1]; rfl, .cons (.inl (.inl ha)) e2⟩
section
variable {P : Program} {w : World} {K : PySem.W.Frag} {mg : Str → Option Value} {base : Heap}
/-- what dict() wants of such pairs -/
theorem nums_dict {H : Hp} : ∀ {ys : List V} {qs : List (Sta × Nat)}, Paired (NumT H) ys qs → ∃ (ps : List Addr) (es : List (NestedKey × Addr × V)), ys = ps.map V.ref ∧ Paired (fun p (e : NestedKey × Addr × V) => SqT K H p [.ref e.2.1, e.2.2]) ps es ∧
    (∀ e ∈ es, Nk H e.1 (.ref e.2.1) ∧ e.1.depth ≤ 8) ∧ es.map (fun e => (e.1, e.2.2)) = qs.map fun q => (keyS q.1, V.int ((q.2 : Nat) : Int))
  | _, _, .nil => ⟨[], [], rfl, .nil, (fun e h => by cases h), rfl⟩
  | _, _, .cons (b := q) h t => by
    obtain ⟨ps, es, e1, e2, e3, e4⟩ := nums_dict t
    obtain ⟨a, u, rfl, ha, hu⟩ := h
    obtain ⟨b, r, m, x, rfl, hb⟩ := id hu
    refine ⟨a :: ps, (keyS q.1, b, .int ((q.2 : Nat) : Int)) :: es, by rw [e1]; rfl, .cons (.inl (.inl ha)) e2, fun e he => ?_, by rw [List.map_cons, List.map_cons, e4]⟩
    rcases List.mem_cons.mp he with rfl | he
    · exact ⟨hu.nk, keyS_dep _⟩
    · exact e3 e he
/-! ### goals_by_letter -/
abbrev NGoalsByLetter : List Str := ["teller", "stands", "numbers", "at", "stand", "tried", "found", "other", "letter", "goals"]
theorem scGoalsByLetter : FnScope NGoalsByLetter ["teller", "stands"] (defScope sGoalsByLetter) := ⟨rfl, rfl, rfl, by decide +kernel, rfl, by decide +kernel, by decide +kernel⟩
def spGoalsByLetter (P : Program) (w : World) (K : PySem.W.Frag) : Sp := fun vs H Q _ => ∃ (a sl : Addr) (L : Lis) (M fs : List Sta) (ys : List V), vs = [.ref a, .ref sl] ∧ ListenerAt K H a L ∧ LisOk L ∧ Closed L.p L.es M ∧ Fnd (p := L.p) (es := L.es) M fs ∧ Closed L.p L.es fs ∧ M.length ≤ 2000 ∧
  H sl = some (.lst ys) ∧ Paired (StT H) ys fs ∧ ∀ H' r zs, Same H H' → H r = none → H' r = some (.lst zs) → Paired (TupN H') zs (goalsM L.p L.es fs) → Q (.ref r) H'
theorem oGoalsByLetter (T : Txt K mg) : Cal P w K mg base 7 "goals_by_letter" (spGoalsByLetter P w K) [] := by
  refine calD (dGoalsByLetter_fn T) (gGoalsByLetter T) scGoalsByLetter (fun vs H Q E h => ?_) (fun _ _ _ _ _ _ us hl => match us, hl with | [_, _], _ => rfl) (fun cdv A outer s H vs Q E hr h => ?_)
  · obtain ⟨a, sl, L, M, fs, ys, rfl, _⟩ := h
    rfl
  · obtain ⟨a, sl, L, M, fs, ys, rfl, hl, ok, cl, hfn, clf, hM, hsl, hys, q⟩ := h
    have hu := hu_of hr
    refine ⟨_, PSs.nox (pss_cons (ps_set (i := 2) scGoalsByLetter.nd rfl (.inr rfl) (pe_callTy (call_dictN rfl hr.units) (by rfl) (f_dict T) (by decide +kernel) (pa_cons (pe_lc (own := [("at", 3), ("stand", 4)]) (g := gTup K 2 (gCons (gName 3) (gCons (gName 4) gNil))) rfl scGoalsByLetter.nd (pi_enum (by rfl) (f_enumerate T) (pa_cons (pv 1) pa_nil)) (blkOk_by (own := [("at", 3), ("stand", 4)]) (N := NGoalsByLetter) (sc := defScope sGoalsByLetter) (by decide +kernel)) (fun _ _ _ _ _ => (pg_tup rfl (pgs_cons (pg_name (i := 3) scGoalsByLetter.nd rfl (.inl rfl)) (pgs_cons (pg_name (i := 4) scGoalsByLetter.nd rfl (.inl rfl)) pgs_nil)))) (fun _ _ _ _ _ => pts_nil) (fun _ _ _ _ _ => (pe_tup (pa_cons (pv 4) (pa_cons (pv 3) pa_nil))))) pa_nil)))
       (pss_cons (ps_par (i := 5) (j := 6) (by rfl) scGoalsByLetter.nd rfl rfl (by decide) rfl rfl (pa_cons (pe_c (oSigns T) hr (by decide) (by rfl) (pa_cons (pv 0) pa_nil)) (pa_cons (pe_lst pa_nil) pa_nil)) (by rfl))
       (pss_cons (ps_set (i := 7) scGoalsByLetter.nd rfl (.inr rfl) (pe_lc (own := [("letter", 8)]) (g := gName 8) rfl scGoalsByLetter.nd (pi_str (pv 5)) (blkOk_by (own := [("letter", 8)]) (N := NGoalsByLetter) (sc := defScope sGoalsByLetter) (by decide +kernel)) (fun _ _ _ _ _ => (pg_name (i := 8) scGoalsByLetter.nd rfl (.inl rfl))) (fun _ _ _ _ _ => (pts_one (pt_cmpR op_notIn_sign (pv 8) (pe_c (oKnownLetters T) hr (by decide) (by rfl) (pa_cons (pv 0) pa_nil)) (by rfl)))) (fun _ _ _ _ _ => (pv 8))))
       (pss_cons (ps_for PassesOwn.never rfl (kPiL K rfl (pv 1)) (pg_name (i := 4) scGoalsByLetter.nd rfl (.inr rfl))
       (pss_cons (ps_set (i := 9) scGoalsByLetter.nd rfl (.inr rfl) (pe_callTy (call_dictP rfl) (by rfl) (f_dict T) (by decide +kernel) (pa_cons (pe_lc (own := [("letter", 8)]) (g := gName 8) rfl scGoalsByLetter.nd (pi_str (pv 5)) (blkOk_by (own := [("letter", 8)]) (N := NGoalsByLetter) (sc := defScope sGoalsByLetter) (by decide +kernel)) (fun _ _ _ _ _ => (pg_name (i := 8) scGoalsByLetter.nd rfl (.inl rfl))) (fun _ _ _ _ _ => pts_nil) (fun _ _ _ _ _ => (pe_tup (pa_cons (pv 8) (pa_cons (kNget P w rfl rfl hr.units (pv 2) (pe_c (oStepOn T) hr (by decide) (by rfl) (pa_cons (pv 0) (pa_cons (pv 4) (pa_cons (pv 8) pa_nil)))) (fun _ _ => rfl)) pa_nil))))) pa_nil)))
       (pss_one (ps_expr (pe_bm PySem.F.plainAttrs_list PySem.F.slot_list_append PySem.F.type_list_append mt_append (pv 6) (pa_cons (pe_callTy (kTup K rfl) (by rfl) (f_tuple T) (by decide +kernel) (pa_cons (pe_lc (own := [("letter", 8)]) (g := gName 8) rfl scGoalsByLetter.nd (pi_str (pe_glob (by rfl) (c_LETTERS T).choose_spec.1 (c_LETTERS T).choose_spec.2)) (blkOk_by (own := [("letter", 8)]) (N := NGoalsByLetter) (sc := defScope sGoalsByLetter) (by decide +kernel)) (fun _ _ _ _ _ => (pg_name (i := 8) scGoalsByLetter.nd rfl (.inl rfl))) (fun _ _ _ _ _ => pts_nil) (fun _ _ _ _ _ => (pe_dget hu (pv 9) (pe_cutE (pe_ifExp (pt_cmp (pc_din hu (pv 8) (pv 9))) (pv 8) (pe_ix (kIxL K rfl) (pv 7) pe_int (fun _ _ => rfl)))) (fun _ _ => rfl)))) pa_nil)) pa_nil))))))
       (pss_one (ps_ret (pv 6))))))), ?_⟩
    have hsz : sizeLine = 16777216 := sizeLine_eq
    have hyl : ys.length = fs.length := Paired.length hys
    have hfl := hfn.len
    -- numbers
    refine ⟨_, rfl, sl, ys, rfl, .inl (.inl hsl), fun D hD => lc_map walk_enum noA (fun i zs H2 => Paired (NumT H2) zs (fs.zipIdx.take i)) hD id (by omega) (fun i zs H2 _ k _ => .inl (.inl (k.toSame _ _ hsl))) .nil ?_ ?_⟩
    · rintro i x H1 H2 zs hi k t ⟨T', y1, y2, rfl, nT, rfl, e1, e2⟩ eD push
      cases (Option.some.inj e1)
      obtain ⟨st, hst, hst2⟩ := Paired.getL hys e2
      have k2 : Kp noA H1 (upd H1 T' (.tup [.int (i : Nat), y2])) := Kp.new nT
      have hT : (upd H1 T' (.tup [.int (i : Nat), y2])) T' = some (.tup [.int (i : Nat), y2]) := upd_same
      generalize (upd H1 T' (.tup [.int (i : Nat), y2])) = H2 at k2 hT ⊢
      refine ⟨T', _, rfl, .inl (.inl hT), rfl, _, _, rfl, _, _, rfl, rfl, rfl, _, rfl, _, rfl, by show 2 ≤ sizeLine; omega, fun t2 nt2 => push _ _ (k2.trans (Kp.new nt2)) ?_⟩
      have gi : fs.zipIdx[i]? = some (st, i) := by rw [List.getElem?_zipIdx, hst]; simp
      have e4 := (k2.trans (Kp.new (o := .tup [y2, .int (i : Nat)]) nt2)).kp D _ eD id
      have i4 := Imm.wr (o := .lst (zs ++ [.ref t2])) e4 (fun z => z)
      rw [List.take_add_one, gi]
      exact Paired.snoc ⟨t2, y2, rfl, i4.tup upd_same, hst2.im (k.im.trans (k2.im.trans ((Imm.new nt2).trans i4)))⟩ (Paired.mapP t fun _ _ z => z.im (k2.im.trans ((Imm.new nt2).trans i4)))
    intro H1 zs k1 eD t
    have hzl : fs.zipIdx.length = fs.length := by rw [List.length_zipIdx]
    rw [List.take_of_length_le (by omega)] at t
    obtain ⟨ps, en, rfl, d1, d2, d3⟩ := nums_dict (K := K) t
    have hek : (en.map (·.1)) = fs.map keyS := by
      have := congrArg (List.map Prod.fst) d3
      rw [List.map_map, List.map_map] at this
      refine this.trans ?_
      rw [show (Prod.fst ∘ fun q : Sta × Nat => (keyS q.1, V.int ((q.2 : Nat) : Int))) = keyS ∘ Prod.fst from rfl, ← List.map_map, List.zipIdx_map_fst]
    refine ⟨D, ps, en, rfl, .inl (.inl eD), d1, d2, ?_, fun d nd φ hd => ?_⟩
    · rw [hek]
      exact nodup_map (fun a b e => keyS_inj e) hfn.nd
    rw [d3] at hd
    have hd1 : NDict P w (upd H1 d (.ext φ)) d (numK fs) := hd
    have k2 := Same.trans k1.toSame (same_upd (o := .ext φ) nd)
    generalize (upd H1 d (.ext φ)) = H2 at k2 hd1 ⊢
    -- tried, found
    refine ⟨_, rfl, a, L, rfl, hl.im (Imm.of_same k2), ok, fun H3 k3 => ⟨Nat.zero_le _, fun f nf => ⟨_, _, rfl, ?_⟩⟩⟩
    have k4 := Same.trans k2 (Same.trans k3 (same_upd (o := .lst []) nf))
    have hd4 := hd1.same (Same.trans k3 (same_upd (o := .lst []) nf))
    have hf4 : (upd H3 f (.lst [])) f = some (.lst []) := upd_same
    have nfH : H f = none := by
      cases e : H f with
      | none => rfl
      | some o =>
        have h1 := Same.trans k2 k3 _ _ e
        rw [nf] at h1
        cases h1
    generalize (upd H3 f (.lst [])) = H4 at k4 hd4 hf4 ⊢
    -- other
    have htl := tried_len L.es
    refine ⟨_, rfl, tx (tried L.es), rfl, fun D2 hD2 => lc_gen walk_str noA (fun i ys H2 => ys = sgs (((tried L.es).take i).filter fun c => decide (c ∉ abc L.es))) hD2 id (by show (tx (tried L.es)).cps.size ≤ _; simp; omega) (fun _ _ _ _ _ _ => trivial) rfl ?_ ?_⟩
    · rintro i x H5 H6 zs hi k rfl ⟨rfl, c, hc, rfl⟩ eD2 push skip
      have gi : (tried L.es)[i]? = some c := by simpa using hc
      refine ⟨rfl, _, rfl, _, rfl, a, L, rfl, hl.im ((Imm.of_same k4).trans k.im), ok, fun H7 k7 => ⟨c, _, rfl, rfl, _, rfl, ite2 (fun e => ?_) (fun e => ?_)⟩⟩
      · have e2 : c ∉ abc L.es := fun z => by
          have : c ∈ (tx (abc L.es)).cps.toList := by simpa using z
          rw [decide_eq_true this] at e; cases e
        refine ⟨_, rfl, push _ _ (Kp.same k7) ?_⟩
        rw [List.take_add_one, gi]
        show _ = sgs (List.filter _ (List.take i (tried L.es) ++ [c]))
        rw [List.filter_append, show List.filter (fun c => decide (c ∉ abc L.es)) [c] = [c] by simp [e2]]
        unfold sgs
        rw [List.map_append]
        rfl
      · have e2 : c ∈ abc L.es := by
          by_cases z : c ∈ abc L.es
          · exact z
          · exact absurd (by rw [decide_eq_false fun y => z (by simpa using y)]; rfl) e
        refine skip _ (Kp.same k7) ?_
        rw [List.take_add_one, gi]
        show _ = sgs (List.filter _ (List.take i (tried L.es) ++ [c]))
        rw [List.filter_append, show List.filter (fun c => decide (c ∉ abc L.es)) [c] = [] by simp [e2], List.append_nil]
    intro H5 os k5 eo t5
    subst t5
    rw [List.take_of_length_le (by simp)] at eo
    have eo2 : H5 D2 = some (.lst (sgs (others L.es))) := eo
    have k05 := Same.trans k4 k5.toSame
    have hd5 := hd4.same k5.toSame
    have hf5 := k5.toSame _ _ hf4
    -- for stand in stands
    refine ⟨_, rfl, sl, rfl, ⟨_, .inl (.inl (k05 _ _ hsl))⟩, for_it (walk_list (xs := ys)) (fun i σ H6 => ∃ x3 x4 x8 x9 zs, σ = [some (.ref a), some (.ref sl), some (.ref d), x3, x4, some (.str (tx (tried L.es))), some (.ref f), some (.ref D2), x8, x9] ∧ Same H H6 ∧ H6 f = some (.lst zs) ∧ Paired (TupN H6) zs ((goalsM L.p L.es fs).take i) ∧
      NDict P w H6 d (numK fs) ∧ H6 D2 = some (.lst (sgs (others L.es)))) ⟨_, _, _, _, [], rfl, k05, hf5, .nil, hd5, eo2⟩ (fun i σ H6 _ ⟨_, _, _, _, _, _, k6, _⟩ => .inl (.inl (k6 _ _ hsl))) ?_ ?_⟩
    · rintro i x σ H6 H7 hi ⟨x3, x4, x8, x9, zs, rfl, k6, hf6, hz6, hd6, ho6⟩ ⟨rfl, hx⟩
      obtain ⟨st, hst, hst0⟩ := Paired.getL hys hx
      have hms := List.mem_of_getElem? hst
      have sok := hfn.ok st hms
      have hstI := hst0.im (Imm.of_same k6)
      -- goals
      refine ⟨_, rfl, tx (tried L.es), rfl, fun D3 hD3 => lc_map walk_str noA (fun j ws H2 => Paired (GoT H2) ws ((goK fs L.p L.es st (tried L.es)).take j)) hD3 id (by show (tx (tried L.es)).cps.size ≤ _; simp; omega) (fun _ _ _ _ _ _ => trivial) .nil ?_ ?_⟩
      · rintro j y H8 H9 ws hj k8 t8 ⟨rfl, c, hc, rfl⟩ eD3 push
        have gj : (tried L.es)[j]? = some c := by simpa using hc
        have hct := List.mem_of_getElem? gj
        refine ⟨rfl, _, rfl, _, rfl, _, rfl, _, rfl, _, rfl, a, L, x, st, c, rfl, hl.im ((Imm.of_same k6).trans k8.im), ok, hstI.im k8.im, sok, fun HA g kA hg => ?_⟩
        have hmem := clf.step st hms c hct
        refine ⟨d, numK fs, keyS (stepM L.p L.es st c), _, rfl, hd6.same (Same.trans k8.toSame kA), hg.nk, keyS_tup _, keyS_dep _, numK_get hmem, by show 2 ≤ sizeLine; omega, fun t2 nt2 => push _ _ ((Kp.same kA).trans (Kp.new nt2)) ?_⟩
        have e4 := ((Kp.same kA).trans (Kp.new (A := noA) (o := .tup [.str (tx [c]), .int ((ixOf fs (stepM L.p L.es st c) : Nat) : Int)]) nt2)).kp D3 _ eD3 id
        have i4 := Imm.wr (o := .lst (ws ++ [.ref t2])) e4 (fun z => z)
        have gg : (goK fs L.p L.es st (tried L.es))[j]? = some (Sum.inr (tx [c]), .int ((ixOf fs (stepM L.p L.es st c) : Nat) : Int)) := by
          unfold goK
          rw [List.getElem?_map, gj]
          rfl
        rw [List.take_add_one, gg]
        exact Paired.snoc ⟨t2, rfl, i4.tup upd_same⟩ (Paired.mapP t8 fun _ _ z => z.im ((Imm.of_same kA).trans ((Imm.new nt2).trans i4)))
      intro H8 ws k8 eD3 t8
      rw [List.take_of_length_le (by unfold goK; simp)] at t8
      obtain ⟨ps, rfl, d4⟩ := go_dict (K := K) t8
      refine ⟨D3, ps, _, rfl, .inl (.inl eD3), d4, fun g ng => ?_⟩
      rw [mergeK_new _ [] (by rw [List.nil_append]; exact goK_nd (tried_nd _)), List.nil_append]
      have k9 := Same.trans k8.toSame (same_upd (o := .dK (goK fs L.p L.es st (tried L.es))) ng)
      have hg9 : (upd H8 g (.dK (goK fs L.p L.es st (tried L.es)))) g = some (.dK (goK fs L.p L.es st (tried L.es))) := upd_same
      generalize (upd H8 g (.dK (goK fs L.p L.es st (tried L.es)))) = H9 at k9 hg9 ⊢
      have hf9 := k9 _ _ hf6
      have ho9 := k9 _ _ ho6
      -- found.append
      have lsz : ("abcdefghijklmnopqrstuvwxyz" : Str).cps.size = 26 := by decide
      let gs : List Int := alphaL.map fun c => ((ixOf fs (stepM L.p L.es st c) : Nat) : Int)
      refine ⟨_, rfl, .inl ⟨rfl, _, .inl (.inl hf9)⟩, _, rfl, fun D4 hD4 => lc_map walk_str noA (fun j us H2 => us = (gs.take j).map V.int) hD4 id (by omega) (fun _ _ _ _ _ _ => trivial) rfl ?_ ?_⟩
      · rintro j y HA HB us hj kA rfl ⟨rfl, c, hc, rfl⟩ eD4 push
        have gj : alphaL[j]? = some c := by
          rw [← ltr_eq]
          simpa using hc
        have hca := List.mem_of_getElem? gj
        have hgB := kA.toSame _ _ hg9
        refine ⟨rfl, _, rfl, fun v H' => ∃ e ∈ tried L.es, v = .str (tx [e]) ∧ stepM L.p L.es st c = stepM L.p L.es st e ∧ HB = H', ?_, ?_⟩
        · refine ⟨_, rfl, _, rfl, g, _, rfl, DGet.k (k := Sum.inr (tx [c])) hgB, _, rfl, ?_⟩
          rw [goK_get]
          by_cases hct : c ∈ tried L.es
          · rw [if_pos hct]
            exact iteT ⟨_, rfl, c, hct, rfl, rfl, rfl⟩
          · rw [if_neg hct]
            obtain ⟨o, r, ho, hot, hon⟩ := others_head hca hct
            have hoB := kA.toSame _ _ ho9
            rw [ho] at hoB
            refine iteF ⟨_, rfl, D2, _, _, _, rfl, rfl, .inl (.inl hoB), atI_nat (j := 0) rfl, o, hot, rfl, ?_, rfl⟩
            exact step_other ok.es (fun z => hct (abc_tried z)) hon
        · rintro _ _ ⟨e, het, rfl, hse, rfl⟩
          refine ⟨g, .int ((ixOf fs (stepM L.p L.es st e) : Nat) : Int), rfl, ?_, push _ _ Kp.refl ?_⟩
          · have := DGet.k (k := Sum.inr (tx [e])) hgB
            rw [goK_get, if_pos het] at this
            exact this
          · have gg : gs[j]? = some ((ixOf fs (stepM L.p L.es st c) : Nat) : Int) := by
              show (alphaL.map _)[j]? = _
              rw [List.getElem?_map, gj]
              rfl
            rw [List.take_add_one, gg, hse, List.map_append]
            rfl
      intro HA us kA eD4 t4
      subst t4
      rw [List.take_of_length_le (by show (alphaL.map _).length ≤ _; rw [List.length_map, lsz]; decide)] at eD4
      refine ⟨D4, _, rfl, .inl ⟨.inl (.inl eD4), fun tp ntp => ?_⟩⟩
      have kB := Same.trans kA.toSame (same_upd (o := .tup (gs.map V.int)) ntp)
      have htp : (upd HA tp (.tup (gs.map V.int))) tp = some (.tup (gs.map V.int)) := upd_same
      generalize (upd HA tp (.tup (gs.map V.int))) = HB at kB htp ⊢
      have kAll := Same.trans k9 kB
      have hfB := kB _ _ hf9
      have hzl : zs.length = ((goalsM L.p L.es fs).take i).length := Paired.length hz6
      have hif : i < fs.length := by omega
      refine ⟨f, _, _, rfl, rfl, hfB, by rw [hzl, List.length_take]; omega, ?_⟩
      have iC : Imm HB (upd HB f (.lst (zs ++ [.ref tp]))) := Imm.wr hfB (fun z => z)
      have hdB := hd6.same kAll
      have hoB := kB _ _ ho9
      have nfd : d ≠ f := fun z => by
        obtain ⟨φ, e⟩ := hdB.at
        rw [z, hfB] at e
        cases e
      have nfo : D2 ≠ f := (ne_of_none hf4 hD2).symm
      refine ⟨_, _, _, _, zs ++ [.ref tp], rfl, Same.wr (Same.trans k6 kAll) nfH, upd_same, ?_, hdB.im (upd_ne nfd) iC, (upd_ne nfo).trans hoB⟩
      have gg : (goalsM L.p L.es fs)[i]? = some (alphaL.map fun c => ixOf fs (stepM L.p L.es st c)) := by
        unfold goalsM
        rw [List.getElem?_map, hst]
        rfl
      rw [List.take_add_one, gg]
      refine Paired.snoc ⟨tp, rfl, ?_⟩ (Paired.mapP hz6 fun _ _ z => z.im ((Imm.of_same kAll).trans iC))
      rw [iC.tup htp, List.map_map, List.map_map, List.map_map]
      rfl
    · rintro σ H6 ⟨x3, x4, x8, x9, zs, rfl, k6, hf6, hz6, hd6, ho6⟩
      rw [List.take_of_length_le (by unfold goalsM; rw [List.length_map]; omega)] at hz6
      exact ⟨_, rfl, q H6 f zs k6 nfH hf6 hz6⟩
end
end Mw


set_option Elab.async false
set_option linter.all false
set_option maxRecDepth 100000
set_option maxHeartbeats 4000000
set_option pp.maxSteps 600
set_option pp.deepTerms false
namespace Mw
open PySem PySem.Spec PyProof.Rows L2
open C8 (Cal pe_c Mak pe_mk)
/-- what len() of either dict asks -/
def rLenM (P : Program) (w : World) : List V → Hp → VK → Prop := fun xs H Q => ∃ (p : Addr) (n : Nat), xs = [.ref p] ∧ ((∃ kvs, H p = some (LDi P w p kvs) ∧ n = kvs.length) ∨ ∃ kvs, NDict P w H p kvs ∧ n = kvs.length) ∧ Q (.int (n : Int)) H
theorem call_lenM (P : Program) (w : World) {X : Cx} (hP : X.prog = P) (hw : X.w = w) : CallR X (.builtin "len") (rLenM P w) := by
  subst hP hw
  intro pins s σ H xs us Q I r ⟨p, n, ex, h, q⟩
  rcases h with ⟨kvs, h1, rfl⟩ | ⟨kvs, h1, rfl⟩
  · exact call_lenL pins s σ H xs us Q I r ⟨p, kvs, ex, h1, q⟩
  · exact call_lenN pins s σ H xs us Q I r ⟨p, kvs, ex, h1, q⟩
def ansLeaf : Ans → Leaf
  | none => .none
  | some x => .text (tx x)
theorem ansLeaf_inj {a b : Ans} (h : ansLeaf a = ansLeaf b) : a = b := by
  cases a with
  | none =>
    cases b with
    | none => rfl
    | some y => cases h
  | some x =>
    cases b with
    | none => cases h
    | some y =>
      injection h with h
      rw [tx_inj h]
theorem ansLeaf_v (a : Ans) : leafV (ansLeaf a) = ansV a := by cases a <;> rfl
/-- keys with their numbers -/
def numKV {α κ : Type} (f : α → κ) (ks : List α) : List (κ × V) := ks.zipIdx.map fun q => (f q.1, .int ((q.2 : Nat) : Int))
theorem numKV_len {α κ : Type} (f : α → κ) (ks : List α) : (numKV f ks).length = ks.length := by unfold numKV; rw [List.length_map, List.length_zipIdx]
theorem numKV_snoc {α κ : Type} (f : α → κ) (ks : List α) (x : α) : numKV f (ks ++ [x]) = numKV f ks ++ [(f x, .int ((ks.length : Nat) : Int))] := by
  unfold numKV
  rw [List.zipIdx_append, List.map_append]
  simp
theorem numKV_getV {α κ : Type} [DecidableEq α] [DecidableEq κ] {f : α → κ} (inj : ∀ a b, f a = f b → a = b) (x : α) : ∀ (ks : List α) (n : Nat), valV ((ks.zipIdx n).map fun q => (f q.1, V.int ((q.2 : Nat) : Int))) (f x) = if x ∈ ks then some (.int ((n + ixOf ks x : Nat) : Int)) else none
  | [], n => rfl
  | k :: ks, n => by
    rw [List.zipIdx_cons, List.map_cons]
    unfold ixOf
    by_cases e : k = x
    · rw [valV_pos (congrArg f e), if_pos (by rw [e]; exact List.mem_cons_self ..), if_pos e]
      rfl
    · rw [valV_neg (fun z => e (inj _ _ z)), numKV_getV inj x ks (n + 1), if_neg e]
      by_cases h : x ∈ ks
      · rw [if_pos h, if_pos (List.mem_cons_of_mem _ h)]
        congr 3
        omega
      · rw [if_neg h, if_neg fun z => (List.mem_cons.mp z).elim (fun y => e y.symm) h]
theorem numKV_v {α κ : Type} [DecidableEq α] [DecidableEq κ] {f : α → κ} (inj : ∀ a b, f a = f b → a = b) (x : α) (ks : List α) : valV (numKV f ks) (f x) = if x ∈ ks then some (.int ((ixOf ks x : Nat) : Int)) else none := by
  have := numKV_getV inj x ks 0
  rw [Nat.zero_add] at this
  exact this
theorem valN_V (kvs : List (NestedKey × V)) (k : NestedKey) : valN kvs k = valV kvs k := rfl
/-- a sign of a state: its group, those behind the letters -/
def keyG (q : Nat × List Nat) : NestedKey := .tup [.num (q.1 : Int), keyI (q.2.map fun (n : Nat) => (n : Int))]
theorem casts_inj : ∀ {a b : List Nat}, (a.map fun (n : Nat) => (n : Int)) = b.map (fun (n : Nat) => (n : Int)) → a = b
  | [], [], _ => rfl
  | [], _ :: _, h => by simp at h
  | _ :: _, [], h => by simp at h
  | x :: a, y :: b, h => by
    rw [List.map_cons, List.map_cons] at h
    injection h with h1 h2
    rw [casts_inj h2, Int.ofNat.inj h1]
theorem keyG_inj (a b : Nat × List Nat) (h : keyG a = keyG b) : a = b := by
  obtain ⟨g, l⟩ := a
  obtain ⟨k, m⟩ := b
  unfold keyG at h
  injection h with h
  injection h with h1 h
  injection h1 with h1
  injection h with h2 _
  have e1 : g = k := Int.ofNat.inj h1
  have e2 : l = m := casts_inj (keyI_inj h2)
  rw [e1, e2]
theorem keyG_dep (q : Nat × List Nat) : (keyG q).depth ≤ 8 := by
  unfold keyG
  rw [NestedKey.depth, NestedKey.depthAll, NestedKey.depthAll, NestedKey.depthAll]
  have h1 : (NestedKey.num (q.1 : Int)).depth = 0 := by simp [NestedKey.depth]
  have h2 : (keyI (q.2.map fun (n : Nat) => (n : Int))).depth = 1 := by rw [NestedKey.depth, dep_nums]
  rw [h1, h2]
  decide
theorem natI {l : List Nat} {j : Nat} (h : j < l.length) : atI (l.map fun (n : Nat) => V.int (n : Int)) (j : Int) = some (.int ((l.getD j 0 : Nat) : Int)) := by
  refine atI_nat ?_
  rw [List.getElem?_map, List.getElem?_eq_getElem h, List.getD_eq_getElem?_getD, List.getElem?_eq_getElem h]
  rfl
abbrev natV (l : List Nat) : List V := l.map fun (n : Nat) => V.int (n : Int)
section
variable {P : Program} {w : World} {K : PySem.W.Frag} {mg : Str → Option Value} {base : Heap}
/-! ### groups_of -/
abbrev NGroupsOf : List Str := ["answers", "goals", "numbers", "found", "many", "worth", "finer", "at", "line", "sign", "goal"]
theorem scGroupsOf : FnScope NGroupsOf ["answers", "goals"] (defScope sGroupsOf) := ⟨rfl, rfl, rfl, by decide +kernel, rfl, by decide +kernel, by decide +kernel⟩
def spGroupsOf (P : Program) (w : World) (K : PySem.W.Frag) : Sp := fun vs H Q _ => ∃ (al gl : Addr) (ans : List Ans) (goals : List (List Nat)) (zs : List V), vs = [.ref al, .ref gl] ∧ H al = some (.lst (ans.map ansV)) ∧ H gl = some (.lst zs) ∧ Paired (TupN H) zs goals ∧ ans.length = goals.length ∧ goals.length ≤ 2000 ∧
  (∀ l ∈ goals, l.length ≤ 26 ∧ ∀ g ∈ l, g < goals.length) ∧ ∀ H' r g, Same H H' → H r = none → H' r = some (.lst (natV g)) → GroupsR ans goals g → Q (.ref r) H'
theorem oGroupsOf (T : Txt K mg) : Cal P w K mg base 1 "groups_of" (spGroupsOf P w K) [] := by
  refine calD (dGroupsOf_fn T) (gGroupsOf T) scGroupsOf (fun vs H Q E h => ?_) (fun _ _ _ _ _ _ us hl => match us, hl with | [_, _], _ => rfl) (fun cdv A outer s H vs Q E hr h => ?_)
  · obtain ⟨al, gl, ans, goals, zs, rfl, _⟩ := h
    rfl
  · obtain ⟨al, gl, ans, goals, zs, rfl, hal, hgl, hz, hag, hn, hgo, q⟩ := h
    refine ⟨_, PSs.nox (pss_cons (ps_asg (pe_tup (pa_cons (kNewL P w rfl rfl) (pa_cons (pe_lst pa_nil) (pa_cons pe_int pa_nil)))) (pg_tup rfl (pgs_cons (pg_name (i := 2) scGroupsOf.nd rfl (.inl rfl)) (pgs_cons (pg_name (i := 3) scGroupsOf.nd rfl (.inr rfl)) (pgs_cons (pg_name (i := 4) scGroupsOf.nd rfl (.inl rfl)) pgs_nil)))))
       (pss_cons (ps_for PassesOwn.never rfl (kPiL K rfl (pv 0)) (pg_name (i := 5) scGroupsOf.nd rfl (.inl rfl))
       (pss_one (ps_expr (pe_bm PySem.F.plainAttrs_list PySem.F.slot_list_append PySem.F.type_list_append mt_append (pv 3) (pa_cons (kSetdL P w rfl rfl (pv 2) (pv 5) (pe_callB (call_lenM P w rfl rfl) (by rfl) (f_len T) (by decide +kernel) (pa_cons (pv 2) pa_nil)) ⟨rfl, rfl, rfl, rfl⟩) pa_nil)))))
       (pss_cons (ps_while PassesOwn.never (pt_cmpR op_lt (pv 4) (pe_callB (call_lenM P w rfl rfl) (by rfl) (f_len T) (by decide +kernel) (pa_cons (pv 2) pa_nil)) (nomark _))
       (pss_cons (ps_par3 (i := 4) (j := 2) (l := 6) (by rfl) scGroupsOf.nd rfl rfl rfl (by decide) (by decide) (by decide) rfl rfl rfl (pa_cons (pe_callB (call_lenM P w rfl rfl) (by rfl) (f_len T) (by decide +kernel) (pa_cons (pv 2) pa_nil)) (pa_cons (kNewN P w rfl rfl) (pa_cons (pe_lst pa_nil) pa_nil))) (by rfl))
       (pss_cons (ps_for PassesOwn.never rfl (pi_enum (by rfl) (f_enumerate T) (pa_cons (pv 1) pa_nil)) (pg_tup rfl (pgs_cons (pg_name (i := 7) scGroupsOf.nd rfl (.inl rfl)) (pgs_cons (pg_name (i := 8) scGroupsOf.nd rfl (.inl rfl)) pgs_nil)))
       (pss_cons (ps_set (i := 9) scGroupsOf.nd rfl (.inl rfl) (pe_tup (pa_cons (pe_ix (kIxL K rfl) (pv 3) (pv 7) (fun _ _ => rfl)) (pa_cons (pe_callTy (kTup K rfl) (by rfl) (f_tuple T) (by decide +kernel) (pa_cons (pe_lc (own := [("goal", 10)]) (g := gName 10) rfl scGroupsOf.nd (kPiT K rfl (pv 8)) (blkOk_by (own := [("goal", 10)]) (N := NGroupsOf) (sc := defScope sGroupsOf) (by decide +kernel)) (fun _ _ _ _ _ => (pg_name (i := 10) scGroupsOf.nd rfl (.inl rfl))) (fun _ _ _ _ _ => pts_nil) (fun _ _ _ _ _ => (pe_ix (kIxL K rfl) (pv 3) (pv 10) (fun _ _ => rfl)))) pa_nil)) pa_nil))))
       (pss_one (ps_expr (pe_bm PySem.F.plainAttrs_list PySem.F.slot_list_append PySem.F.type_list_append mt_append (pv 6) (pa_cons (kSetdN P w rfl rfl hr.units (pv 2) (pv 9) (pe_callB (call_lenM P w rfl rfl) (by rfl) (f_len T) (by decide +kernel) (pa_cons (pv 2) pa_nil)) ⟨rfl, rfl, rfl, rfl⟩) pa_nil))))))
       (pss_one (ps_set (i := 3) scGroupsOf.nd rfl (.inr rfl) (pv 6))))))
       (pss_one (ps_ret (pv 3)))))), ?_⟩
    have hsz : sizeLine = 16777216 := sizeLine_eq
    -- numbers, found, many
    refine fun d nd => ⟨Nat.zero_le _, fun f nf => ⟨by show 3 ≤ sizeLine; omega, fun t nt => ?_⟩⟩
    have hd1 : (upd (upd (upd H d (LDi P w d [])) f (.lst [])) t (.tup [.ref d, .ref f, .int 0])) d = some (LDi P w d (numKV ansLeaf (keysOf (ans.take 0)))) :=
      (upd_ne (ne_of_none ((upd_ne (ne_of_none upd_same nf)).trans upd_same) nt)).trans ((upd_ne (ne_of_none upd_same nf)).trans upd_same)
    have hf1 : (upd (upd (upd H d (LDi P w d [])) f (.lst [])) t (.tup [.ref d, .ref f, .int 0])) f = some (.lst (natV ((num ans).take 0))) := (upd_ne (ne_of_none upd_same nt)).trans upd_same
    have ht1 : (upd (upd (upd H d (LDi P w d [])) f (.lst [])) t (.tup [.ref d, .ref f, .int 0])) t = some (.tup [.ref d, .ref f, .int 0]) := upd_same
    have k1 : Same H (upd (upd (upd H d (LDi P w d [])) f (.lst [])) t (.tup [.ref d, .ref f, .int 0])) := Same.trans (same_upd nd) (Same.trans (same_upd nf) (same_upd nt))
    have nfH : H f = none := by
      cases e : H f with
      | none => rfl
      | some o => rw [same_upd nd _ _ e] at nf; cases nf
    have nfd : f ≠ d := (ne_of_none upd_same nf).symm
    generalize (upd (upd (upd H d (LDi P w d [])) f (.lst [])) t (.tup [.ref d, .ref f, .int 0])) = H1 at hd1 hf1 ht1 k1 ⊢
    refine ⟨t, _, rfl, .inl (.inl ht1), rfl, _, _, rfl, _, _, rfl, _, _, rfl, rfl, ?_⟩
    -- for worth in answers
    refine ⟨_, rfl, al, rfl, ⟨_, .inl (.inl (k1 _ _ hal))⟩, for_it (walk_list (xs := ans.map ansV)) (fun i σ H2 => ∃ x5 x6 x7 x8 x9 x10, σ = [some (.ref al), some (.ref gl), some (.ref d), some (.ref f), some (.int 0), x5, x6, x7, x8, x9, x10] ∧ Same H H2 ∧ H2 d = some (LDi P w d (numKV ansLeaf (keysOf (ans.take i)))) ∧ H2 f = some (.lst (natV ((num ans).take i))))
      ⟨none, none, none, none, none, none, rfl, k1, hd1, hf1⟩ (fun i σ H2 _ ⟨_, _, _, _, _, _, _, k2, _⟩ => .inl (.inl (k2 _ _ hal))) ?_ ?_⟩
    · rintro i x σ H2 H3 hi ⟨x5, x6, x7, x8, x9, x10, rfl, k2, hd2, hf2⟩ ⟨rfl, hx⟩
      obtain ⟨an, han, rfl⟩ : ∃ an, ans[i]? = some an ∧ ansV an = x := by
        rw [List.getElem?_map] at hx
        obtain ⟨z, hz2, e⟩ := Option.map_eq_some_iff.mp hx
        exact ⟨z, hz2, e⟩
      have hia : i < ans.length := (List.getElem?_eq_some_iff.mp han).1
      have hkl := keys_len (ans.take i)
      rw [List.length_take] at hkl
      have eks : keysOf (ans.take (i + 1)) = addNew (keysOf (ans.take i)) an := by rw [List.take_add_one, han]; exact keysOf_snoc _ _
      have enum : natV ((num ans).take (i + 1)) = natV ((num ans).take i) ++ [.int ((ixOf (addNew (keysOf (ans.take i)) an) an : Nat) : Int)] := by
        rw [List.take_add_one, num_at han, num_take han]
        unfold natV
        rw [List.map_append]
        rfl
      have hlf : (natV ((num ans).take i)).length < sizeLine := by
        unfold natV
        rw [List.length_map, List.length_take, num_len]
        omega
      rw [eks, enum]
      refine ⟨_, rfl, .inl ⟨rfl, _, .inl (.inl hf2)⟩, _, rfl, d, _, rfl, hd2, _, rfl, _, rfl, d, _, rfl, .inl ⟨_, hd2, rfl⟩, _, ansLeaf an, hd2, (ansLeaf_v an).symm, by rw [numKV_len]; omega, fun v hv => ?_, fun hv => ?_⟩
      · rw [numKV_v (fun a b e => ansLeaf_inj e)] at hv
        by_cases hm : an ∈ keysOf (ans.take i)
        · rw [if_pos hm] at hv
          cases (Option.some.inj hv)
          have ea : addNew (keysOf (ans.take i)) an = keysOf (ans.take i) := if_pos hm
          rw [ea]
          refine ⟨f, _, _, rfl, rfl, hf2, hlf, _, _, _, _, _, _, rfl, Same.wr k2 nfH, (upd_ne nfd.symm).trans hd2, upd_same⟩
        · rw [if_neg hm] at hv
          cases hv
      · have hm : an ∉ keysOf (ans.take i) := fun z => by
          rw [numKV_v (fun a b e => ansLeaf_inj e), if_pos z] at hv
          cases hv
        have ea : addNew (keysOf (ans.take i)) an = keysOf (ans.take i) ++ [an] := if_neg hm
        rw [ea, ixOf_new hm, numKV_len, putK_new _ hv, numKV_snoc]
        have k3 := Same.wr (o := LDi P w d (numKV ansLeaf (keysOf (ans.take i)) ++ [(ansLeaf an, .int (((keysOf (ans.take i)).length : Nat) : Int))])) k2 nd
        have hf3 := (upd_ne (o := LDi P w d (numKV ansLeaf (keysOf (ans.take i)) ++ [(ansLeaf an, .int (((keysOf (ans.take i)).length : Nat) : Int))])) nfd).trans hf2
        refine ⟨f, _, _, rfl, rfl, hf3, hlf, _, _, _, _, _, _, rfl, Same.wr k3 nfH, (upd_ne nfd.symm).trans upd_same, upd_same⟩
    rintro σ H2 ⟨x5, x6, x7, x8, x9, x10, rfl, k2, hd2, hf2⟩
    rw [List.take_of_length_le (by simp)] at hd2
    rw [List.take_of_length_le (by rw [num_len]; simp)] at hf2
    -- while
    refine ⟨fun m σ H3 => ∃ k dd ff x5 x6 x7 x8 x9 x10, m = goals.length + 1 - manyN ans goals k ∧ σ = [some (.ref al), some (.ref gl), some (.ref dd), some (.ref ff), some (.int ((manyN ans goals k : Nat) : Int)), x5, x6, x7, x8, x9, x10] ∧ Same H H3 ∧ H ff = none ∧ H3 ff = some (.lst (natV (refN ans goals k))) ∧
      ((∃ kvs, H3 dd = some (LDi P w dd kvs) ∧ cntN ans goals k = kvs.length) ∨ ∃ kvs, NDict P w H3 dd kvs ∧ cntN ans goals k = kvs.length) ∧ ∀ j, j < k → manyN ans goals j < cntN ans goals j,
      ⟨_, 0, d, f, x5, x6, x7, x8, x9, x10, rfl, rfl, k2, nfH, hf2, .inl ⟨_, hd2, by rw [numKV_len]; rfl⟩, fun j h => absurd h (Nat.not_lt_zero _)⟩, ?_⟩
    rintro m σ H3 ⟨k, dd, ff, y5, y6, y7, y8, y9, y10, rfl, rfl, k3, nff, hf3, hdd, hj⟩
    refine ⟨_, rfl, _, rfl, dd, _, rfl, hdd, _, _, rfl, rfl, _, rfl, ite2 (fun e => ?_) (fun e => ?_)⟩
    · have hlt : manyN ans goals k < cntN ans goals k := by have := of_decide_eq_true e; omega
      have hcl := cntN_le hag k
      refine ⟨fun σ' H' => ∃ d2 f2 x5 x6 x7 x8 x9 x10, σ' = [some (.ref al), some (.ref gl), some (.ref d2), some (.ref f2), some (.int ((cntN ans goals k : Nat) : Int)), x5, x6, x7, x8, x9, x10] ∧ Same H H' ∧ H f2 = none ∧ H' f2 = some (.lst (natV (refN ans goals (k + 1)))) ∧
        ∃ kvs, NDict P w H' d2 kvs ∧ cntN ans goals (k + 1) = kvs.length, fun σ' H' hN => ?_, ?_⟩
      · obtain ⟨d2, f2, z5, z6, z7, z8, z9, z10, e1, e2, e3, e4, e5⟩ := hN
        refine ⟨goals.length + 1 - manyN ans goals (k + 1), ?_, k + 1, d2, f2, z5, z6, z7, z8, z9, z10, rfl, e1, e2, e3, e4, .inr e5, fun j h => ?_⟩
        · show goals.length + 1 - cntN ans goals k < _
          omega
        · rcases Nat.lt_or_ge j k with z | z
          · exact hj j z
          · have : j = k := by omega
            rw [this]; exact hlt
      have hrl := refN_len hag k
      let S := sigsOf (refN ans goals k) goals
      have hSl : S.length = goals.length := by show (List.map _ _).length = _; rw [List.length_map, List.length_range]
      have hnext : refN ans goals (k + 1) = num S := rfl
      refine ⟨_, rfl, dd, _, rfl, hdd, fun d2 nd2 φ hd2 => ⟨Nat.zero_le _, fun f2 nf2 => ⟨_, _, _, rfl, ?_⟩⟩⟩
      have nd2H : H d2 = none := by
        cases e2 : H d2 with
        | none => rfl
        | some o => rw [k3 _ _ e2] at nd2; cases nd2
      have k4 := Same.trans k3 (same_upd (o := .ext φ) nd2)
      have nf2H : H f2 = none := by
        cases e2 : H f2 with
        | none => rfl
        | some o => rw [k4 _ _ e2] at nf2; cases nf2
      have f2d : f2 ≠ d2 := (ne_of_none upd_same nf2).symm
      have k5 := Same.trans k4 (same_upd (o := .lst []) nf2)
      have hff5 : (upd (upd H3 d2 (.ext φ)) f2 (.lst [])) ff = some (.lst (natV (refN ans goals k))) := same_upd nf2 _ _ (same_upd nd2 _ _ hf3)
      have hd5 : NDict P w (upd (upd H3 d2 (.ext φ)) f2 (.lst [])) d2 (numKV keyG (keysOf (S.take 0))) := hd2.same (same_upd nf2)
      have hf5 : (upd (upd H3 d2 (.ext φ)) f2 (.lst [])) f2 = some (.lst (natV ((num S).take 0))) := upd_same
      have ffd : ff ≠ d2 := ne_of_none hf3 nd2
      have fff : ff ≠ f2 := ne_of_none (same_upd (o := .ext φ) nd2 _ _ hf3) nf2
      generalize (upd (upd H3 d2 (.ext φ)) f2 (.lst [])) = H5 at k5 hff5 hd5 hf5 ⊢
      refine ⟨_, rfl, gl, zs, rfl, .inl (.inl (k5 _ _ hgl)), for_it walk_enum (fun i σ H6 => ∃ x7 x8 x9 x10, σ = [some (.ref al), some (.ref gl), some (.ref d2), some (.ref ff), some (.int ((cntN ans goals k : Nat) : Int)), y5, some (.ref f2), x7, x8, x9, x10] ∧ Same H H6 ∧ H6 ff = some (.lst (natV (refN ans goals k))) ∧
        H6 f2 = some (.lst (natV ((num S).take i))) ∧ NDict P w H6 d2 (numKV keyG (keysOf (S.take i)))) ⟨_, _, _, _, rfl, k5, hff5, hf5, hd5⟩ (fun i σ H6 _ ⟨_, _, _, _, _, k6, _⟩ => .inl (.inl (k6 _ _ hgl))) ?_ ?_⟩
      · rintro i x σ H6 H7 hi ⟨x7, x8, x9, x10, rfl, k6, hff6, hf6, hd6⟩ ⟨T', v1, v2, rfl, nT, rfl, e1, e2⟩
        cases (Option.some.inj e1)
        obtain ⟨line, hline, la, rfl, hla⟩ := Paired.getL hz e2
        have hig : i < goals.length := (List.getElem?_eq_some_iff.mp hline).1
        obtain ⟨hl26, hlg⟩ := hgo line (List.mem_of_getElem? hline)
        have k7 := Same.trans k6 (same_upd (o := .tup [.int (i : Nat), .ref la]) nT)
        have s67 := same_upd (o := .tup [.int (i : Nat), .ref la]) nT
        have hT7 : (upd H6 T' (.tup [.int (i : Nat), .ref la])) T' = some (.tup [.int (i : Nat), .ref la]) := upd_same
        have hd7 := hd6.same s67
        have hff7 := s67 _ _ hff6
        have hf7 := s67 _ _ hf6
        have hla7 := k7 _ _ hla
        generalize (upd H6 T' (.tup [.int (i : Nat), .ref la])) = H7 at k7 s67 hT7 hd7 hff7 hf7 hla7 ⊢
        let sg : Nat × List Nat := ((refN ans goals k).getD i 0, line.map fun j => (refN ans goals k).getD j 0)
        have hsg : S[i]? = some sg := by
          show (List.map _ _)[i]? = _
          rw [List.getElem?_map, List.getElem?_range hig]
          show some ((refN ans goals k).getD i 0, (goals.getD i []).map _) = _
          rw [show goals.getD i [] = line by rw [List.getD_eq_getElem?_getD, hline]; rfl]
        refine ⟨T', _, rfl, .inl (.inl hT7), rfl, _, _, rfl, _, _, rfl, rfl, ?_⟩
        refine ⟨_, rfl, _, rfl, ff, _, _, _, rfl, rfl, .inl (.inl hff7), natI (by omega), ?_⟩
        refine ⟨_, rfl, la, rfl, ⟨_, .inl (.inl hla7)⟩, fun D hD => lc_map (walk_tup (xs := (line.map fun (n : Nat) => (n : Int)).map V.int)) noA (fun j ys H2 => ys = natV (sg.2.take j)) hD id (by simp; omega) (fun j ys H2 _ kk _ => .inl (.inl (kk.im.tup hla7))) rfl ?_ ?_⟩
        · rintro j x H8 H9 ys hj k8 rfl ⟨rfl, hy⟩ eD push
          obtain ⟨g, hg, rfl⟩ : ∃ g, line[j]? = some g ∧ V.int (g : Int) = x := by
            rw [List.map_map, List.getElem?_map] at hy
            obtain ⟨z, hz2, e3⟩ := Option.map_eq_some_iff.mp hy
            exact ⟨z, hz2, e3⟩
          have hgl2 := hlg g (List.mem_of_getElem? hg)
          refine ⟨rfl, _, rfl, _, rfl, ff, _, _, _, rfl, rfl, .inl (.inl (k8.toSame _ _ hff7)), natI (by omega), push _ _ Kp.refl ?_⟩
          have gs : sg.2[j]? = some ((refN ans goals k).getD g 0) := by
            show (line.map _)[j]? = _
            rw [List.getElem?_map, hg]
            rfl
          rw [List.take_add_one, gs]
          unfold natV
          rw [List.map_append]
          rfl
        intro H8 ys k8 eD t8
        subst t8
        rw [List.take_of_length_le (by show (line.map _).length ≤ _; simp)] at eD
        refine ⟨D, _, rfl, .inl ⟨.inl (.inl eD), fun tp ntp => ⟨by show 2 ≤ sizeLine; omega, fun sgA nsg => ?_⟩⟩⟩
        have s79 := Same.trans k8.toSame (Same.trans (same_upd (o := .tup (natV sg.2)) ntp) (same_upd (o := .tup [.int (((refN ans goals k).getD i 0 : Nat) : Int), .ref tp]) nsg))
        have htp9 : (upd (upd H8 tp (.tup (natV sg.2))) sgA (.tup [.int (((refN ans goals k).getD i 0 : Nat) : Int), .ref tp])) tp = some (.tup (natV sg.2)) := same_upd nsg _ _ upd_same
        have hsg9 : (upd (upd H8 tp (.tup (natV sg.2))) sgA (.tup [.int (((refN ans goals k).getD i 0 : Nat) : Int), .ref tp])) sgA = some (.tup [.int (((refN ans goals k).getD i 0 : Nat) : Int), .ref tp]) := upd_same
        have nfD : D ≠ f2 := (ne_of_none hf7 hD).symm
        generalize (upd (upd H8 tp (.tup (natV sg.2))) sgA (.tup [.int (((refN ans goals k).getD i 0 : Nat) : Int), .ref tp])) = H9 at s79 htp9 hsg9 ⊢
        have hnk : Nk H9 (keyG sg) (.ref sgA) := by
          refine .tup hsg9 (.cons (.int _) (.cons ?_ .nil))
          refine .tup htp9 ?_
          have e3 : natV sg.2 = (sg.2.map fun (n : Nat) => (n : Int)).map V.int := by rw [List.map_map]; rfl
          rw [e3]
          exact nk_nums _
        have hd9 := hd7.same s79
        have hf9 := s79 _ _ hf7
        have hff9 := s79 _ _ hff7
        have k9 := Same.trans k7 s79
        have hkl := keys_len (S.take i)
        rw [List.length_take] at hkl
        have eks : keysOf (S.take (i + 1)) = addNew (keysOf (S.take i)) sg := by rw [List.take_add_one, hsg]; exact keysOf_snoc _ _
        have enum : natV ((num S).take (i + 1)) = natV ((num S).take i) ++ [.int ((ixOf (addNew (keysOf (S.take i)) sg) sg : Nat) : Int)] := by
          rw [List.take_add_one, num_at hsg, num_take hsg]
          unfold natV
          rw [List.map_append]
          rfl
        have hlf : (natV ((num S).take i)).length < sizeLine := by
          unfold natV
          rw [List.length_map, List.length_take, num_len]
          omega
        rw [eks, enum]
        refine ⟨_, rfl, .inl ⟨rfl, _, .inl (.inl hf9)⟩, _, rfl, d2, _, rfl, hd9, _, rfl, _, rfl, d2, _, rfl, .inr ⟨_, hd9, rfl⟩, _, keyG sg, hd9, hnk, ⟨_, rfl⟩, keyG_dep _, by rw [numKV_len]; omega, fun v hv => ?_, fun hv φ2 hdA => ?_⟩
        · rw [valN_V, numKV_v keyG_inj] at hv
          by_cases hm : sg ∈ keysOf (S.take i)
          · rw [if_pos hm] at hv
            cases (Option.some.inj hv)
            have ea : addNew (keysOf (S.take i)) sg = keysOf (S.take i) := if_pos hm
            rw [ea]
            refine ⟨f2, _, _, rfl, rfl, hf9, hlf, _, _, _, _, rfl, Same.wr k9 nf2H, (upd_ne fff).trans hff9, upd_same, hd9.im (upd_ne f2d.symm) (Imm.wr hf9 (fun z => z))⟩
          · rw [if_neg hm] at hv
            cases hv
        · have hm : sg ∉ keysOf (S.take i) := fun z => by
            rw [valN_V, numKV_v keyG_inj, if_pos z] at hv
            cases hv
          have ea : addNew (keysOf (S.take i)) sg = keysOf (S.take i) ++ [sg] := if_neg hm
          rw [ea, ixOf_new hm, numKV_snoc]
          rw [numKV_len] at hdA
          obtain ⟨φ9, ed9⟩ := hd9.at
          rw [numKV_len]
          have hfA : (upd H9 d2 (.ext φ2)) f2 = _ := (upd_ne f2d).trans hf9
          refine ⟨f2, _, _, rfl, rfl, hfA, hlf, _, _, _, _, rfl, Same.wr (Same.wr k9 nd2H) nf2H, (upd_ne fff).trans ((upd_ne ffd).trans hff9), upd_same, hdA.im (upd_ne f2d.symm) (Imm.wr hfA (fun z => z))⟩
      · rintro σ H6 ⟨x7, x8, x9, x10, rfl, k6, hff6, hf6, hd6⟩
        have hzl : zs.length = goals.length := Paired.length hz
        rw [List.take_of_length_le (by omega)] at hd6
        rw [List.take_of_length_le (by rw [num_len]; omega), ← hnext] at hf6
        exact ⟨_, rfl, d2, f2, _, _, _, _, _, _, rfl, k6, nf2H, hf6, _, hd6, by rw [numKV_len]; rfl⟩
    · refine ⟨_, rfl, q H3 ff _ k3 nff hf3 ⟨k, hj, fun z => e (decide_eq_true (by omega)), rfl⟩⟩
end
end Mw


set_option Elab.async false
set_option linter.all false
set_option maxRecDepth 100000
set_option maxHeartbeats 4000000
set_option pp.maxSteps 600
set_option pp.deepTerms false
namespace Mw
open PySem PySem.Spec PyProof.Rows L2
open C8 (Cal pe_c Mak pe_mk)
/-! ### machines -/
def MRowT (H : Hp) (v : V) (r : MRow) : Prop := ∃ a b, v = .ref a ∧ H a = some (.tup [ansV r.1, .ref b]) ∧ H b = some (.tup (natV r.2))
theorem MRowT.im {H H' : Hp} {v : V} {r : MRow} (h : MRowT H v r) (k : Imm H H') : MRowT H' v r := by
  obtain ⟨a, b, e1, e2, e3⟩ := h
  exact ⟨a, b, e1, k.tup e2, k.tup e3⟩
structure MRowOk (n : Nat) (r : MRow) : Prop where
  word : ∀ x, r.1 = some x → (∀ c ∈ x, c ∈ alphaL) ∧ 1 ≤ x.length ∧ x.length ≤ 5
  len : r.2.length = 26
  lt : ∀ g ∈ r.2, g < n
def MachineAt (K : PySem.W.Frag) (H : Hp) (a : Addr) (rows : List MRow) : Prop := ∃ dx r vs, H a = some (.ins (He.ga K "Machine") dx [("m_rows", .ref r)]) ∧ H r = some (.tup vs) ∧ Paired (MRowT H) vs rows
theorem MachineAt.im {K : PySem.W.Frag} {H H' : Hp} {a : Addr} {rows : List MRow} (h : MachineAt K H a rows) (k : Imm H H') : MachineAt K H' a rows := by
  obtain ⟨dx, r, vs, e1, e2, e3⟩ := h
  exact ⟨dx, r, vs, k.ins e1, k.tup e2, Paired.mapP e3 fun _ _ q => q.im k⟩
/-! data of rows -/
def dAns : Ans → PyData
  | none => .none
  | some x => .str (tx x)
def dMRow (r : MRow) : PyData := .tuple [dAns r.1, dInts (r.2.map fun (n : Nat) => (n : Int))]
theorem natV_int (l : List Nat) : natV l = (l.map fun (n : Nat) => (n : Int)).map V.int := by rw [List.map_map]; rfl
theorem MRowT.dp {K : PySem.W.Frag} {H : Hp} {v : V} {r : MRow} (h : MRowT H v r) : Dp K H v (dMRow r) := by
  obtain ⟨a, b, rfl, e1, e2⟩ := h
  refine .tup (.inl (.inl e1)) (.cons ?_ (.cons (dp_int (by rw [e2, natV_int])) .nil))
  cases r.1 with
  | none => exact .non
  | some x => exact .str _
theorem lay_mrow {r : MRow} (h : ∀ x, r.1 = some x → ∀ c ∈ x, c ∈ alphaL) : (dMRow r).canLay0 = true := by
  unfold dMRow
  rw [PyData.canLay0, PyData.canLayAll0, PyData.canLayAll0, PyData.canLayAll0, PyData.canLay0, lay_ints]
  cases hr : r.1 with
  | none => simp [dAns, PyData.canLay0]
  | some x =>
    have := strOk_tx (h x hr)
    simp [dAns, PyData.canLay0, this]
theorem dep_mrow (r : MRow) : (dMRow r).depth ≤ 2 := by
  unfold dMRow
  rw [PyData.depth, PyData.depthAll, PyData.depthAll, PyData.depthAll, PyData.depth, dep_ints]
  cases r.1 with
  | none => simp [dAns, PyData.depth]
  | some x => simp [dAns, PyData.depth]
theorem lay_mrows : ∀ {rs : List MRow}, (∀ r ∈ rs, ∀ x, r.1 = some x → ∀ c ∈ x, c ∈ alphaL) → PyData.canLayAll0 (rs.map dMRow) = true
  | [], _ => by simp [PyData.canLayAll0]
  | r :: rs, h => by
    rw [List.map_cons, PyData.canLayAll0, lay_mrow (h r (List.mem_cons_self ..)), lay_mrows fun x hx => h x (List.mem_cons_of_mem _ hx)]
    rfl
theorem dep_mrows : ∀ rs : List MRow, PyData.depthAll (rs.map dMRow) ≤ 2
  | [] => by simp [PyData.depthAll]
  | r :: rs => by
    have h1 := dep_mrow r
    have h2 := dep_mrows rs
    rw [List.map_cons, PyData.depthAll]
    omega
theorem shaped_mrows {rs : List MRow} (h : ∀ r ∈ rs, ∀ x, r.1 = some x → ∀ c ∈ x, c ∈ alphaL) : SeqAt.shaped (.tuple (rs.map dMRow)) = true := by
  have h1 := dep_mrows rs
  unfold SeqAt.shaped
  rw [PyData.canLay0, lay_mrows h, PyData.depth, decide_eq_true (by omega)]
  rfl
theorem dp_mrows {K : PySem.W.Frag} {H : Hp} : ∀ {vs : List V} {rs : List MRow}, Paired (MRowT H) vs rs → DpAll K H vs (rs.map dMRow)
  | _, _, .nil => .nil
  | _, _, .cons h t => .cons h.dp (dp_mrows t)
section
variable {P : Program} {w : World} {K : PySem.W.Frag} {mg : Str → Option Value} {base : Heap}
/-! ### is_machine_row -/
abbrev NIsMachineRow : List Str := ["thing", "many", "goal"]
theorem scIsMachineRow : FnScope NIsMachineRow ["thing", "many"] (defScope sIsMachineRow) := ⟨rfl, rfl, rfl, by decide +kernel, rfl, by decide +kernel, by decide +kernel⟩
def spIsMachineRow (P : Program) (w : World) (K : PySem.W.Frag) : Sp := fun vs H Q _ => ∃ (v : V) (r : MRow) (n : Nat), vs = [v, .int (n : Int)] ∧ MRowT H v r ∧ MRowOk n r ∧ ∀ H', Same H H' → Q (.bl true) H'
theorem oIsMachineRow (T : Txt K mg) : Cal P w K mg base 3 "is_machine_row" (spIsMachineRow P w K) [] := by
  refine calD (dIsMachineRow_fn T) (gIsMachineRow T) scIsMachineRow (fun vs H Q E h => ?_) (fun _ _ _ _ _ _ us hl => match us, hl with | [_, _], _ => rfl) (fun cdv A outer s H vs Q E hr h => ?_)
  · obtain ⟨v, r, n, rfl, _⟩ := h
    rfl
  · obtain ⟨v, r, n, rfl, ⟨a, b, rfl, ha, hb⟩, ok, q⟩ := h
    refine ⟨_, PSs.nox (pss_cons (ps_if (PW.pt (pw_or (pt_not (pt_val (pe_callB call_isi (by rfl) (f_isinstance T) (by decide +kernel) (pa_cons (pv 0) (pa_cons (pe_bltn (v := .ty "tuple") (by rfl) (f_tuple T) boot_tuple rfl) pa_nil))))) (pw_or (pt_cmpR op_ne (pe_callB (kLen K rfl) (by rfl) (f_len T) (by decide +kernel) (pa_cons (pv 0) pa_nil)) pe_int (nomark _)) (pw_or1 (pt_not (pt_val (pe_callB call_isi (by rfl) (f_isinstance T) (by decide +kernel) (pa_cons (pe_ix (kIxT K rfl) (pv 0) pe_int (fun _ _ => rfl)) (pa_cons (pe_bltn (v := .ty "tuple") (by rfl) (f_tuple T) boot_tuple rfl) pa_nil)))))))))
       (pss_one (ps_ret pe_bl))
       pss_nil)
       (C8.pss_cut (ps_if (PW.pt (pw_or (PW.pt (pw_and (pt_cmpR op_notN (pe_ix (kIxT K rfl) (pv 0) pe_int (fun _ _ => rfl)) pe_non (nomark _)) (pw_and1 (pt_not (pt_val (pe_c (oIsWord T) hr (by decide) (by rfl) (pa_cons (pe_ix (kIxT K rfl) (pv 0) pe_int (fun _ _ => rfl)) pa_nil))))))) (pw_or1 (pt_cmpR op_ne (pe_callB (kLen K rfl) (by rfl) (f_len T) (by decide +kernel) (pa_cons (pe_ix (kIxT K rfl) (pv 0) pe_int (fun _ _ => rfl)) pa_nil)) (pe_callB call_len_str (by rfl) (f_len T) (by decide +kernel) (pa_cons (pe_glob (by rfl) (c_LETTERS T).choose_spec.1 (c_LETTERS T).choose_spec.2) pa_nil)) (nomark _)))))
       (pss_one (ps_ret pe_bl))
       pss_nil)
       (pss_one (ps_ret (pe_callB (kAll K rfl rfl) (by rfl) (f_all T) (by decide +kernel) (pa_cons (pe_lc (own := [("goal", 2)]) (g := gName 2) rfl scIsMachineRow.nd (kPiT K rfl (pe_ix (kIxT K rfl) (pv 0) pe_int (fun _ _ => rfl))) (blkOk_by (own := [("goal", 2)]) (N := NIsMachineRow) (sc := defScope sIsMachineRow) (by decide +kernel)) (fun _ _ _ _ _ => (pg_name (i := 2) scIsMachineRow.nd rfl (.inl rfl))) (fun _ _ _ _ _ => pts_nil) (fun _ _ _ _ _ => (pe_and (pe_c (oIsInteger T) hr (by decide) (by rfl) (pa_cons (pv 2) pa_nil)) (pe_one (pe_chain op_le op_lt pe_int (pv 2) (pv 1)))))) pa_nil)))))), ?_⟩
    have hsz : sizeLine = 16777216 := sizeLine_eq
    have lsz : ("abcdefghijklmnopqrstuvwxyz" : Str).length = 26 := by decide
    refine ⟨_, rfl, .ref a, .ty "tuple", .type "tuple", .type "tuple", true, rfl, .ty _, .base (.tup ha), kit_ty (by decide +kernel), true, rfl, iteF ?_⟩
    refine ⟨_, rfl, a, _, rfl, .inr (.inl (.inl ha)), rfl, _, rfl, iteND rfl ?_⟩
    refine ⟨_, rfl, a, _, _, _, rfl, rfl, .inl (.inl ha), rfl, .ref b, .ty "tuple", .type "tuple", .type "tuple", true, rfl, .ty _, .base (.tup hb), kit_ty (by decide +kernel), true, rfl, iteF ?_⟩
    have lenOk : ∀ H1, Same H H1 → (((natV r.2).length : Nat) : Int) = ((("abcdefghijklmnopqrstuvwxyz" : Str).length : Nat) : Int) := fun _ _ => by
      rw [lsz]
      show (((r.2.map _).length : Nat) : Int) = _
      rw [List.length_map, ok.len]
    refine ⟨fun σ' H' => σ' = L2.start NIsMachineRow [.ref a, .int (n : Int)] ∧ Same H H', ?_, ?_⟩
    · cases hr1 : r.1 with
      | none =>
        rw [hr1] at ha
        refine ⟨_, rfl, a, _, _, _, rfl, rfl, .inl (.inl ha), rfl, rfl, false, rfl, iteF (iteF ?_)⟩
        refine ⟨_, rfl, a, _, _, _, rfl, rfl, .inl (.inl ha), rfl, b, _, rfl, .inr (.inl (.inl hb)), _, rfl, by omega, rfl, _, rfl, iteND (congrArg V.int (lenOk H Same.rfl')) ?_⟩
        exact ⟨rfl, Same.rfl'⟩
      | some x =>
        rw [hr1] at ha
        obtain ⟨w1, w2, w3⟩ := ok.word x hr1
        refine ⟨_, rfl, a, _, _, _, rfl, rfl, .inl (.inl ha), rfl, rfl, true, rfl, iteT ?_⟩
        refine ⟨_, rfl, a, _, _, _, rfl, rfl, .inl (.inl ha), rfl, x, rfl, w1, w2, w3, fun H1 k1 => ⟨true, rfl, iteF ?_⟩⟩
        refine ⟨_, rfl, a, _, _, _, rfl, rfl, .inl (.inl (k1 _ _ ha)), rfl, b, _, rfl, .inr (.inl (.inl (k1 _ _ hb))), _, rfl, by omega, rfl, _, rfl, iteND (congrArg V.int (lenOk H Same.rfl')) ?_⟩
        exact ⟨rfl, k1⟩
    · rintro _ H1 ⟨rfl, k1⟩
      have ha1 := k1 _ _ ha
      have hb1 := k1 _ _ hb
      refine ⟨_, rfl, a, _, _, _, rfl, rfl, .inl (.inl ha1), rfl, b, rfl, ⟨_, .inl (.inl hb1)⟩, fun D hD => lc_map (walk_tup (xs := natV r.2)) noA (fun i ys H2 => ys = (List.replicate i true).map V.bl) hD id (by show (r.2.map _).length ≤ _; rw [List.length_map, ok.len]; omega) (fun i ys H2 _ k _ => .inl (.inl (k.im.tup hb1))) rfl ?_ ?_⟩
      · rintro i x H2 H3 ys hi k rfl ⟨rfl, hy⟩ eD push
        obtain ⟨g, hg, rfl⟩ : ∃ g, r.2[i]? = some g ∧ V.int (g : Int) = x := by
          rw [List.getElem?_map] at hy
          obtain ⟨z, hz2, e3⟩ := Option.map_eq_some_iff.mp hy
          exact ⟨z, hz2, e3⟩
        have hlt := ok.lt g (List.mem_of_getElem? hg)
        refine ⟨rfl, _, rfl, (g : Int), rfl, true, rfl, iteT ⟨_, rfl, _, _, rfl, rfl, _, rfl, iteD (by omega) ⟨_, rfl, _, _, rfl, rfl, push _ _ Kp.refl ?_⟩⟩⟩
        show _ ++ [V.bl (decide ((g : Int) < (n : Int)))] = _
        rw [decide_eq_true (by omega), List.replicate_succ', List.map_append]
        rfl
      · intro H2 ys k eD t
        subst t
        refine ⟨_, _, rfl, .inl (.inl eD), ?_⟩
        have hb2 : (List.replicate (natV r.2).length true).all id = true := by simp
        rw [hb2]
        exact q H2 (Same.trans k1 k.toSame)
theorem scMachineInit : FnScope ["self", "rows", "at", "one"] ["self", "rows"] (defScope sMachineInit) := ⟨rfl, rfl, rfl, by decide +kernel, rfl, by decide +kernel, by decide +kernel⟩
def spMachineInit (P : Program) (w : World) (K : PySem.W.Frag) : Sp := fun vs H Q _ => ∃ (a dx r : Addr) (xs : List V) (rows : List MRow), vs = [.ref a, .ref r] ∧ H r = some (.tup xs) ∧ Paired (MRowT H) xs rows ∧ rows ≠ [] ∧ rows.length ≤ 2000 ∧ (∀ x ∈ rows, MRowOk rows.length x) ∧
  H a = some (.ins (He.ga K "Machine") dx []) ∧ ∀ H', (∀ b o, b ≠ a → H b = some o → H' b = some o) → H' a = some (.ins (He.ga K "Machine") dx [("m_rows", .ref r)]) → Q .non H'
theorem makMachine (T : Txt K mg) : Mak P w K mg base 4 "Machine" (He.ga K "Machine") (spMachineInit P w K) [] := by
  obtain ⟨fd, F⟩ := dMachineInit_fn T
  refine ⟨_, fd, ["self", "rows"], [], mkrMachine T, F.ok scMachineInit (fun vs H Q E h => ?_) (fun cdv A outer s H vs Q E hr h => ?_), gMachine T, F.bindsN (fun _ _ _ _ _ _ us hl => match us, hl with | [_, _], _ => rfl), .nil⟩
  · obtain ⟨a, dx, r, xs, rows, rfl, _⟩ := h
    rfl
  · obtain ⟨a, dx, r, xs, rows, rfl, hrr, hx, hne, hn, hok, ha, q⟩ := h
    refine ⟨_, PSs.nox (pss_cons (ps_if (PW.pt (pw_or (pt_not (pt_val (pe_callB call_isi (by rfl) (f_isinstance T) (by decide +kernel) (pa_cons (pv 1) (pa_cons (pe_bltn (v := .ty "tuple") (by rfl) (f_tuple T) boot_tuple rfl) pa_nil))))) (pw_or1 (pt_cmpR (kEqD K rfl hr.units) (pv 1) (pe_tup pa_nil) (nomark _)))))
       (pss_one ps_never)
       pss_nil)
       (pss_cons (ps_for PassesOwn.never rfl (pi_enumT (by rfl) (f_enumerate T) (pa_cons (pv 1) pa_nil)) (pg_tup rfl (pgs_cons (pg_name (i := 2) scMachineInit.nd rfl (.inl rfl)) (pgs_cons (pg_name (i := 3) scMachineInit.nd rfl (.inl rfl)) pgs_nil)))
       (pss_one (ps_if (PW.pt (pw_or (pt_cmpR op_eq (pv 2) (pe_glob (by rfl) (c_MOST_ROWS T).choose_spec.1 (c_MOST_ROWS T).choose_spec.2) (nomark _)) (pw_or1 (pt_not (pt_val (pe_c (oIsMachineRow T) hr (by decide) (by rfl) (pa_cons (pv 3) (pa_cons (pe_callB (kLen K rfl) (by rfl) (f_len T) (by decide +kernel) (pa_cons (pv 1) pa_nil)) pa_nil))))))))
       (pss_one ps_never)
       pss_nil)))
       (pss_one (ps_fld (pv 0) (pv 1) rfl)))), ?_⟩
    have hl : xs.length = rows.length := Paired.length hx
    refine ⟨_, rfl, .ref r, .ty "tuple", .type "tuple", .type "tuple", true, rfl, .ty _, .base (.tup hrr), kit_ty (by decide +kernel), true, rfl, iteF ?_⟩
    refine ⟨_, rfl, Nat.zero_le _, fun t nt => ?_⟩
    have k1 := same_upd (o := .tup []) nt
    have emp : (rows.map dMRow).isEmpty = false := by
      cases rows with
      | nil => exact absurd rfl hne
      | cons x l => rfl
    refine ⟨.tuple (rows.map dMRow), .tuple [], .tup (.inl (.inl (k1 _ _ hrr))) (dp_mrows (Paired.mapP hx fun _ _ z => z.im (Imm.new nt))), dp_nil upd_same, shaped_mrows (fun x hx x1 h1 => ((hok x hx).word x1 h1).1), shaped_nil, false, by rw [eqv_nil, emp], iteF ?_⟩
    refine ⟨_, rfl, r, xs, rfl, .inl (.inl (k1 _ _ hrr)), for_it walk_G (fun i σ H2 => Same H H2 ∧ ∃ u v, σ = [some (.ref a), some (.ref r), u, v]) ⟨k1, none, none, rfl⟩ (fun i σ H2 _ ⟨k2, _⟩ => .inl (.inl (k2 _ _ hrr))) ?_ ?_⟩
    · rintro i x σ H2 H3 hi ⟨k2, u, v, rfl⟩ ⟨T', y1, y2, rfl, nT, rfl, e1, e2⟩
      cases (Option.some.inj e1)
      obtain ⟨row, hrow, hrt⟩ := Paired.getL hx e2
      have k3 := Same.trans k2 (same_upd (o := .tup [.int (i : Nat), y2]) nT)
      have hT3 : (upd H2 T' (.tup [.int (i : Nat), y2])) T' = some (.tup [.int (i : Nat), y2]) := upd_same
      generalize (upd H2 T' (.tup [.int (i : Nat), y2])) = H3 at k3 hT3 ⊢
      refine ⟨T', _, rfl, .inl (.inl hT3), rfl, _, _, rfl, _, _, rfl, rfl, ?_⟩
      refine ⟨_, rfl, rfl, _, rfl, iteDn (fun z => by have := V.int.inj z; omega) ?_⟩
      refine ⟨_, rfl, _, rfl, r, xs, rfl, .inr (.inl (.inl (k3 _ _ hrr))), y2, row, rows.length, by rw [hl]; rfl, hrt.im (Imm.of_same k3), hok row (List.mem_of_getElem? hrow), fun H4 k4 => ⟨true, rfl, iteF ?_⟩⟩
      exact ⟨Same.trans k3 k4, _, _, rfl⟩
    · rintro σ H2 ⟨k2, u, v, rfl⟩
      refine ⟨_, rfl, _, rfl, a, _, dx, _, rfl, k2 _ _ ha, clsMachine T, no_m_rows T, by show 0 < 1000; omega, ?_⟩
      exact q _ (fun b o nb e => by rw [upd_ne nb]; exact k2 _ _ e) upd_same
end
end Mw


set_option Elab.async false
set_option linter.all false
set_option maxRecDepth 100000
set_option maxHeartbeats 4000000
set_option pp.maxSteps 600
set_option pp.deepTerms false
namespace Mw
open PySem PySem.Spec PyProof.Rows L2
open C8 (Cal pe_c Mak pe_mk)
section
variable {P : Program} {w : World} {K : PySem.W.Frag} {mg : Str → Option Value} {base : Heap}
/-- what a listener must be for the search to end -/
structure Few (L : Lis) (M : List Sta) : Prop where
  cl : Closed L.p L.es M
  few : M.length ≤ 2000
/-! ### smallest -/
abbrev NSmallest : List Str := ["teller", "most", "stands", "stand", "text", "answers", "goals", "groups", "rows", "at", "group", "goal"]
theorem scSmallest : FnScope NSmallest ["teller", "most"] (defScope sSmallest) := ⟨rfl, rfl, rfl, by decide +kernel, rfl, by decide +kernel, by decide +kernel⟩
def spSmallest (P : Program) (w : World) (K : PySem.W.Frag) : Sp := fun vs H Q _ => ∃ (a : Addr) (L : Lis) (M : List Sta), vs = [.ref a, .int 2000] ∧ ListenerAt K H a L ∧ LisOk L ∧ Few L M ∧ ∀ H' m rows, Same H H' → MachineAt K H' m rows → MachR L rows → Q (.ref m) H'
theorem fnSmallest (T : Txt K mg) : ∃ fd, FnOk P w K mg base C8.CX0 9 (dSmallest.adr K) fd ["teller", "most"] (spSmallest P w K) ∧ (∃ ds, Vals [.int 2000] ds ∧ Binds K fd ["teller", "most"] ds) ∧
    ∃ mv : List Value, KBn K fd ["teller", "most"] 1 ["most"] (fun us ws => us ++ ws) (fun vs zs => vs ++ zs) := by
  obtain ⟨fd, F⟩ := dSmallest_fn T
  refine ⟨fd, F.ok scSmallest (fun vs H Q E h => ?_) (fun cdv A outer s H vs Q E hr h => ?_), ?_, ?_⟩
  · obtain ⟨a, L, M, rfl, _⟩ := h
    rfl
  · obtain ⟨a, L, M, rfl, hl, ok, ⟨cl, hM⟩, q⟩ := h
    refine ⟨_, PSs.nox (pss_cons (ps_expr (pe_c (oNeedMost T) hr (by decide) (by rfl) (pa_cons (pv 1) pa_nil)))
       (pss_cons (ps_setLc (i := 2) (own := [("stand", 3), ("text", 4)]) (g := gTup K 2 (gCons (gName 3) (gCons (gName 4) gNil))) rfl scSmallest.nd rfl rfl (sw_true rfl rfl rfl (by decide +kernel)) (kPiL K rfl (pe_c (oWalks T) hr (by decide) (by rfl) (pa_cons (pv 0) (pa_cons (pv 1) pa_nil)))) (blkOk_by (own := [("stand", 3), ("text", 4)]) (N := NSmallest) (sc := defScope sSmallest) (by decide +kernel)) (fun _ _ _ _ _ => (pg_tup rfl (pgs_cons (pg_name (i := 3) scSmallest.nd rfl (.inl rfl)) (pgs_cons (pg_name (i := 4) scSmallest.nd rfl (.inl rfl)) pgs_nil)))) (fun _ _ _ _ _ => pts_nil) (fun _ _ _ _ _ => (pv 3)))
       (pss_cons (ps_par (i := 5) (j := 6) (by rfl) scSmallest.nd rfl rfl (by decide) rfl rfl (pa_cons (pe_lc (own := [("stand", 3)]) (g := gName 3) rfl scSmallest.nd (kPiL K rfl (pv 2)) (blkOk_by (own := [("stand", 3)]) (N := NSmallest) (sc := defScope sSmallest) (by decide +kernel)) (fun _ _ _ _ _ => (pg_name (i := 3) scSmallest.nd rfl (.inl rfl))) (fun _ _ _ _ _ => pts_nil) (fun _ _ _ _ _ => (pe_c (oAnswerAt T) hr (by decide) (by rfl) (pa_cons (pv 0) (pa_cons (pv 3) pa_nil))))) (pa_cons (pe_c (oGoalsByLetter T) hr (by decide) (by rfl) (pa_cons (pv 0) (pa_cons (pv 2) pa_nil))) pa_nil)) (by rfl))
       (pss_cons (ps_asg (pe_tup (pa_cons (pe_c (oGroupsOf T) hr (by decide) (by rfl) (pa_cons (pv 5) (pa_cons (pv 6) pa_nil))) (pa_cons (pe_lst pa_nil) pa_nil))) (pg_tup rfl (pgs_cons (pg_name (i := 7) scSmallest.nd rfl (.inr rfl)) (pgs_cons (pg_name (i := 8) scSmallest.nd rfl (.inl rfl)) pgs_nil))))
       (pss_cons (ps_for PassesOwn.never rfl (pi_enum (by rfl) (f_enumerate T) (pa_cons (pv 7) pa_nil)) (pg_tup rfl (pgs_cons (pg_name (i := 9) scSmallest.nd rfl (.inl rfl)) (pgs_cons (pg_name (i := 10) scSmallest.nd rfl (.inl rfl)) pgs_nil)))
       (pss_one (ps_if (pt_cmpR op_eq (pv 10) (pe_callB (kLen K rfl) (by rfl) (f_len T) (by decide +kernel) (pa_cons (pv 8) pa_nil)) (nomark _))
       (pss_one (ps_expr (pe_bm PySem.F.plainAttrs_list PySem.F.slot_list_append PySem.F.type_list_append mt_append (pv 8) (pa_cons (pe_tup (pa_cons (pe_ix (kIxL K rfl) (pv 5) (pv 9) (fun _ _ => rfl)) (pa_cons (pe_callTy (kTup K rfl) (by rfl) (f_tuple T) (by decide +kernel) (pa_cons (pe_lc (own := [("goal", 11)]) (g := gName 11) rfl scSmallest.nd (kPiT K rfl (pe_ix (kIxL K rfl) (pv 6) (pv 9) (fun _ _ => rfl))) (blkOk_by (own := [("goal", 11)]) (N := NSmallest) (sc := defScope sSmallest) (by decide +kernel)) (fun _ _ _ _ _ => (pg_name (i := 11) scSmallest.nd rfl (.inl rfl))) (fun _ _ _ _ _ => pts_nil) (fun _ _ _ _ _ => (pe_ix (kIxL K rfl) (pv 7) (pv 11) (fun _ _ => rfl)))) pa_nil)) pa_nil))) pa_nil))))
       pss_nil)))
       (pss_one (ps_ret (pe_mk (makMachine T) hr (by decide) (by rfl) (pa_cons (pe_callTy (kTup K rfl) (by rfl) (f_tuple T) (by decide +kernel) (pa_cons (pv 8) pa_nil)) pa_nil))))))))), ?_⟩
    have hsz : sizeLine = 16777216 := sizeLine_eq
    obtain ⟨clA, fA⟩ := all_closed cl hM
    have hfl := fA.len
    refine ⟨_, rfl, rfl, ?_⟩
    -- stands
    refine ⟨_, rfl, _, rfl, a, L, M, rfl, hl, ok, cl, hM, fun H1 f ys k1 nf hf1 hys => ?_⟩
    have hyl : ys.length = (allM L.p L.es).length := Paired.length hys
    refine ⟨f, rfl, ⟨_, .inl (.inl hf1)⟩, fun D hD => lc_map (walk_list (xs := ys)) noA (fun i zs H2 => Paired (StT H2) zs ((allM L.p L.es).take i)) hD id (by omega) (fun i zs H2 _ k _ => .inl (.inl (k.toSame _ _ hf1))) .nil ?_ ?_⟩
    · rintro i x H2 H3 zs hi k t ⟨rfl, hx⟩ eD push
      obtain ⟨st, hst, b, u, l, rfl, hb, hu2, hll⟩ := Paired.getL hys hx
      refine ⟨b, _, rfl, .inl (.inl (k.im.tup hb)), rfl, _, _, rfl, _, _, rfl, rfl, rfl, _, rfl, push _ _ Kp.refl ?_⟩
      rw [List.take_add_one, hst]
      have i4 := Imm.wr (o := .lst (zs ++ [u])) eD (fun z => z)
      exact Paired.snoc (hu2.im (k.im.trans i4)) (Paired.mapP t fun _ _ z => z.im i4)
    intro H2 zs k2 eD t
    rw [List.take_of_length_le (by omega)] at t
    have k02 := Same.trans k1 k2.toSame
    have hzl : zs.length = (allM L.p L.es).length := Paired.length t
    -- answers, goals
    refine ⟨_, rfl, D, rfl, ⟨_, .inl (.inl eD)⟩, fun D2 hD2 => lc_map (walk_list (xs := zs)) noA (fun i us H3 => us = ((ansM L (allM L.p L.es)).take i).map ansV) hD2 id (by omega) (fun i us H3 _ k _ => .inl (.inl (k.toSame _ _ eD))) rfl ?_ ?_⟩
    · rintro i x H3 H4 us hi k rfl ⟨rfl, hx⟩ eD2 push
      obtain ⟨st, hst, hx2⟩ := Paired.getL t hx
      refine ⟨rfl, _, rfl, _, rfl, a, L, x, st, rfl, hl.im ((Imm.of_same k02).trans k.im), ok, hx2.im k.im, fA.ok st (List.mem_of_getElem? hst), fun H5 k5 => push _ _ (Kp.same k5) ?_⟩
      have ga : (ansM L (allM L.p L.es))[i]? = some (heardM L st.row) := by
        unfold ansM
        rw [List.getElem?_map, hst]
        rfl
      rw [List.take_add_one, ga, List.map_append]
      rfl
    intro H3 us k3 eD2 tu
    subst tu
    have hal : (ansM L (allM L.p L.es)).length = (allM L.p L.es).length := by unfold ansM; rw [List.length_map]
    rw [List.take_of_length_le (by omega)] at eD2
    have k03 := Same.trans k02 k3.toSame
    have hD3 := k3.toSame _ _ eD
    refine ⟨_, rfl, _, rfl, a, D, L, M, allM L.p L.es, zs, rfl, hl.im (Imm.of_same k03), ok, cl, fA, clA, hM, hD3, Paired.mapP t fun _ _ z => z.im k3.im, fun H4 gl gs k4 ngl hgl hgs => ⟨_, _, rfl, ?_⟩⟩
    have k04 := Same.trans k03 k4
    have hgol := goalsM_lt (p := L.p) ok.es clA
    have hgoL : (goalsM L.p L.es (allM L.p L.es)).length = (allM L.p L.es).length := by unfold goalsM; rw [List.length_map]
    -- groups, rows
    refine ⟨_, rfl, _, rfl, D2, gl, _, _, gs, rfl, k4 _ _ eD2, hgl, hgs, by omega, by omega, fun l hl2 => ⟨by have := (hgol l hl2).1; omega, (hgol l hl2).2⟩, fun H5 gr g k5 ngr hgr G => ?_⟩
    have k05 := Same.trans k04 k5
    refine ⟨Nat.zero_le _, fun rl nrl => ⟨by show 2 ≤ sizeLine; omega, fun t6 nt6 => ?_⟩⟩
    have s56 := Same.trans (same_upd (o := .lst []) nrl) (same_upd (o := .tup [.ref gr, .ref rl]) nt6)
    have ht6 : (upd (upd H5 rl (.lst [])) t6 (.tup [.ref gr, .ref rl])) t6 = some (.tup [.ref gr, .ref rl]) := upd_same
    have hrl6 : (upd (upd H5 rl (.lst [])) t6 (.tup [.ref gr, .ref rl])) rl = some (.lst []) := same_upd nt6 _ _ upd_same
    have nrlH : H rl = none := by
      cases e : H rl with
      | none => rfl
      | some o => rw [k05 _ _ e] at nrl; cases nrl
    generalize (upd (upd H5 rl (.lst [])) t6 (.tup [.ref gr, .ref rl])) = H6 at s56 ht6 hrl6 ⊢
    have k06 := Same.trans k05 s56
    refine ⟨t6, _, rfl, .inl (.inl ht6), rfl, _, _, rfl, _, _, rfl, rfl, ?_⟩
    have hgr6 := s56 _ _ hgr
    have hD26 := s56 _ _ (k5 _ _ (k4 _ _ eD2))
    have hgl6 := s56 _ _ (k5 _ _ hgl)
    obtain ⟨g1, g2, g3, g4⟩ := groups_rows (by omega) (by have := List.length_pos_of_mem clA.start; omega) (fun l hl2 => (hgol l hl2).2) G
    have gs6 := Paired.mapP hgs fun _ _ z => TupN.im z (Imm.of_same (Same.trans k5 s56))
    have same_of : ∀ {H7 : Hp}, Kp (fun x => x = rl) H6 H7 → Same H H7 := fun k b o e => k.kp b o (k06 _ _ e) (ne_of_none e nrlH)
    have nrl1 : gr ≠ rl := ne_of_none hgr nrl
    have nrl2 : D2 ≠ rl := ne_of_none (k5 _ _ (k4 _ _ eD2)) nrl
    have nrl3 : gl ≠ rl := ne_of_none (k5 _ _ hgl) nrl
    refine ⟨_, rfl, gr, natV g, rfl, .inl (.inl hgr6), for_it walk_enum (fun i σ H7 => ∃ x3 x4 x9 x10 x11 ws, σ = [some (.ref a), some (.int 2000), some (.ref D), x3, x4, some (.ref D2), some (.ref gl), some (.ref gr), some (.ref rl), x9, x10, x11] ∧ Kp (fun x => x = rl) H6 H7 ∧ H7 rl = some (.lst ws) ∧
      Paired (MRowT H7) ws (rowsI (ansM L (allM L.p L.es)) (goalsM L.p L.es (allM L.p L.es)) g i)) ⟨_, _, _, _, _, [], rfl, Kp.refl, hrl6, .nil⟩ (fun i σ H7 _ ⟨_, _, _, _, _, _, _, k7, _⟩ => .inl (.inl (k7.kp _ _ hgr6 nrl1))) ?_ ?_⟩
    · rintro i x σ H7 H8 hi ⟨x3, x4, x9, x10, x11, ws, rfl, k7, hrl7, hws⟩ ⟨T', v1, v2, rfl, nT, rfl, e1, e2⟩
      cases (Option.some.inj e1)
      have hig : i < g.length := by
        have h1 : i < (natV g).length := hi
        unfold natV at h1
        rw [List.length_map] at h1
        exact h1
      obtain rfl : v2 = .int ((g.getD i 0 : Nat) : Int) := by
        have h1 : (natV g)[i]? = some v2 := e2
        rw [List.getElem?_map, List.getElem?_eq_getElem hig] at h1
        rw [List.getD_eq_getElem?_getD, List.getElem?_eq_getElem hig]
        exact (Option.some.inj h1).symm
      have s78 := same_upd (o := .tup [.int (i : Nat), .int ((g.getD i 0 : Nat) : Int)]) nT
      have hT8 : (upd H7 T' (.tup [.int (i : Nat), .int ((g.getD i 0 : Nat) : Int)])) T' = some (.tup [.int (i : Nat), .int ((g.getD i 0 : Nat) : Int)]) := upd_same
      generalize (upd H7 T' (.tup [.int (i : Nat), .int ((g.getD i 0 : Nat) : Int)])) = H8 at s78 hT8 ⊢
      have k8 := k7.trans (Kp.same s78)
      have hrl8 := s78 _ _ hrl7
      have hws8 := Paired.mapP hws fun _ _ z => z.im (Imm.of_same s78)
      have hwl : ws.length = (rowsI (ansM L (allM L.p L.es)) (goalsM L.p L.es (allM L.p L.es)) g i).length := Paired.length hws
      refine ⟨T', _, rfl, .inl (.inl hT8), rfl, _, _, rfl, _, _, rfl, rfl, ?_⟩
      refine ⟨_, rfl, _, rfl, rl, ws, rfl, .inl (.inl (.inl hrl8)), rfl, _, rfl, ite2 (fun e => ?_) (fun e => ?_)⟩
      · have e3 : g.getD i 0 = (rowsI (ansM L (allM L.p L.es)) (goalsM L.p L.es (allM L.p L.es)) g i).length := by
          have := V.int.inj (of_decide_eq_true e)
          omega
        have hil : i < (allM L.p L.es).length := by omega
        have erow : rowsI (ansM L (allM L.p L.es)) (goalsM L.p L.es (allM L.p L.es)) g (i + 1) = rowsI (ansM L (allM L.p L.es)) (goalsM L.p L.es (allM L.p L.es)) g i ++ [rowAt (ansM L (allM L.p L.es)) (goalsM L.p L.es (allM L.p L.es)) g i] := if_pos e3
        rw [erow]
        have hD28 := k8.kp _ _ hD26 nrl2
        have hgl8 := k8.kp _ _ hgl6 nrl3
        have hgr8 := k8.kp _ _ hgr6 nrl1
        have hga : (goalsM L.p L.es (allM L.p L.es))[i]? = some ((goalsM L.p L.es (allM L.p L.es)).getD i []) := by
          rw [List.getD_eq_getElem?_getD, List.getElem?_eq_getElem (by omega)]
          rfl
        obtain ⟨lv, hlv, la, rfl, hla⟩ := Paired.get gs6 hga
        have hla8 := k8.im.tup hla
        have han : ((ansM L (allM L.p L.es)).map ansV)[i]? = some (ansV ((ansM L (allM L.p L.es)).getD i none)) := by
          rw [List.getElem?_map, List.getD_eq_getElem?_getD, List.getElem?_eq_getElem (by omega)]
          rfl
        obtain ⟨hl26, hlg⟩ := hgol _ (List.mem_of_getElem? hga)
        refine ⟨_, rfl, .inl ⟨rfl, _, .inl (.inl hrl8)⟩, _, rfl, _, rfl, D2, _, _, _, rfl, rfl, .inl (.inl hD28), atI_nat han, ?_⟩
        refine ⟨_, rfl, _, rfl, gl, _, _, .ref la, rfl, rfl, .inl (.inl hgl8), atI_nat hlv, la, rfl, ⟨_, .inl (.inl hla8)⟩, fun D3 hD3 => lc_map (walk_tup (xs := (((goalsM L.p L.es (allM L.p L.es)).getD i []).map fun (n : Nat) => (n : Int)).map V.int)) noA
          (fun j us H9 => us = natV ((((goalsM L.p L.es (allM L.p L.es)).getD i []).map fun j => g.getD j 0).take j)) hD3 id (by rw [List.length_map, List.length_map]; omega) (fun j us H9 _ kk _ => .inl (.inl (kk.im.tup hla8))) rfl ?_ ?_⟩
        · rintro j x H9 HA us hj k9 rfl ⟨rfl, hy⟩ eD3 push
          obtain ⟨gg, hgg, rfl⟩ : ∃ gg, ((goalsM L.p L.es (allM L.p L.es)).getD i [])[j]? = some gg ∧ V.int (gg : Int) = x := by
            rw [List.map_map, List.getElem?_map] at hy
            obtain ⟨z, hz2, e4⟩ := Option.map_eq_some_iff.mp hy
            exact ⟨z, hz2, e4⟩
          have hlt := hlg gg (List.mem_of_getElem? hgg)
          refine ⟨rfl, _, rfl, _, rfl, gr, _, _, _, rfl, rfl, .inl (.inl (k9.toSame _ _ hgr8)), natI (by omega), push _ _ Kp.refl ?_⟩
          rw [List.take_add_one, List.getElem?_map, hgg]
          unfold natV
          rw [List.map_append]
          rfl
        intro H9 us k9 eD3 t9
        subst t9
        rw [List.take_of_length_le (by rw [List.length_map, List.length_map, List.length_map]; exact Nat.le_refl _)] at eD3
        refine ⟨D3, _, rfl, .inl ⟨.inl (.inl eD3), fun tp ntp => ⟨by show 2 ≤ sizeLine; omega, fun rt nrt => ?_⟩⟩⟩
        let line : List Nat := (((goalsM L.p L.es (allM L.p L.es)).getD i []).map fun j => g.getD j 0)
        have s8A := Same.trans k9.toSame (Same.trans (same_upd (o := .tup (natV line)) ntp) (same_upd (o := .tup [ansV ((ansM L (allM L.p L.es)).getD i none), .ref tp]) nrt))
        have htpA : (upd (upd H9 tp (.tup (natV line))) rt (.tup [ansV ((ansM L (allM L.p L.es)).getD i none), .ref tp])) tp = some (.tup (natV line)) := same_upd nrt _ _ upd_same
        have hrtA : (upd (upd H9 tp (.tup (natV line))) rt (.tup [ansV ((ansM L (allM L.p L.es)).getD i none), .ref tp])) rt = some (.tup [ansV ((ansM L (allM L.p L.es)).getD i none), .ref tp]) := upd_same
        have s8A' : Same H8 (upd (upd H9 tp (.tup (natV line))) rt (.tup [ansV ((ansM L (allM L.p L.es)).getD i none), .ref tp])) := s8A
        generalize (upd (upd H9 tp (.tup (natV line))) rt (.tup [ansV ((ansM L (allM L.p L.es)).getD i none), .ref tp])) = HA at s8A' htpA hrtA ⊢
        have hrlA := s8A' _ _ hrl8
        have iB : Imm HA (upd HA rl (.lst (ws ++ [.ref rt]))) := Imm.wr hrlA (fun z => z)
        refine ⟨rl, _, _, rfl, rfl, hrlA, by have := rowsI_len (ansM L (allM L.p L.es)) (goalsM L.p L.es (allM L.p L.es)) g i; omega, ?_⟩
        refine ⟨_, _, _, _, _, ws ++ [.ref rt], rfl, (k8.trans (Kp.same s8A')).trans (Kp.wr rfl hrlA (fun z => z)), upd_same, ?_⟩
        exact Paired.snoc ⟨rt, tp, rfl, iB.tup hrtA, iB.tup htpA⟩ (Paired.mapP hws8 fun _ _ z => z.im ((Imm.of_same s8A').trans iB))
      · have e3 : ¬ g.getD i 0 = (rowsI (ansM L (allM L.p L.es)) (goalsM L.p L.es (allM L.p L.es)) g i).length := fun z => e (decide_eq_true (by rw [z, hwl]))
        have erow : rowsI (ansM L (allM L.p L.es)) (goalsM L.p L.es (allM L.p L.es)) g (i + 1) = rowsI (ansM L (allM L.p L.es)) (goalsM L.p L.es (allM L.p L.es)) g i := if_neg e3
        rw [erow]
        exact ⟨_, _, _, _, _, ws, rfl, k8, hrl8, hws8⟩
    rintro σ H7 ⟨x3, x4, x9, x10, x11, ws, rfl, k7, hrl7, hws⟩
    have erows : rowsI (ansM L (allM L.p L.es)) (goalsM L.p L.es (allM L.p L.es)) g (natV g).length = rowsM (ansM L (allM L.p L.es)) (goalsM L.p L.es (allM L.p L.es)) g := by
      unfold rowsM natV
      rw [List.length_map]
    rw [erows] at hws
    have hR : MachR L (rowsM (ansM L (allM L.p L.es)) (goalsM L.p L.es (allM L.p L.es)) g) := ⟨g, G, rfl⟩
    obtain ⟨grp, sim⟩ := mach_sim ok cl hM hR
    generalize rowsM (ansM L (allM L.p L.es)) (goalsM L.p L.es (allM L.p L.es)) g = rows at hws hR sim g2 g3
    have hne : rows ≠ [] := fun z => by
      have := sim.row _ sim.start
      rw [z] at this
      cases this
    have hrlen : rows.length ≤ 2000 := by
      have hnd : (List.range rows.length).length ≤ ((allM L.p L.es).map grp).length := nodup_len _ _ List.nodup_range fun r hr => by
        obtain ⟨s, hs, e⟩ := sim.all r (List.mem_range.mp hr)
        exact List.mem_map.mpr ⟨s, hs, e⟩
      rw [List.length_range, List.length_map] at hnd
      omega
    have hrok : ∀ x ∈ rows, MRowOk rows.length x := fun x hx => by
      obtain ⟨r, hr⟩ := List.mem_iff_getElem?.mp hx
      obtain ⟨st, hs, e⟩ := sim.all r (List.getElem?_eq_some_iff.mp hr).1
      have h1 := sim.row st hs
      rw [e, hr] at h1
      cases (Option.some.inj h1)
      refine ⟨fun y hy => ?_, by rw [List.length_map]; decide, fun gg hgg => ?_⟩
      · obtain ⟨en, hen, rfl⟩ := heard_word hy
        have eo := ok.es.all en hen
        exact ⟨eo.abc, eo.lo, eo.hi⟩
      · obtain ⟨c, hc, rfl⟩ := List.mem_map.mp hgg
        exact (List.getElem?_eq_some_iff.mp (sim.row _ (sim.step st hs c hc))).1
    refine ⟨_, rfl, rl, ws, rfl, .inl ⟨.inl (.inl hrl7), fun tr ntr => ?_⟩⟩
    have k07 := same_of k7
    have s78 := same_upd (o := .tup ws) ntr
    have htr8 : (upd H7 tr (.tup ws)) tr = some (.tup ws) := upd_same
    generalize (upd H7 tr (.tup ws)) = H8 at s78 htr8 ⊢
    have hws8 := Paired.mapP hws fun _ _ z => z.im (Imm.of_same s78)
    intro m dm nm ndm ndme
    have s9 : Same H8 (upd (upd H8 dm (.own m)) m (.ins (He.ga K "Machine") dm [])) := fun b o e => by rw [upd_ne (ne_of_none e nm), upd_ne (ne_of_none e ndm)]; exact e
    refine ⟨m, dm, tr, ws, rows, rfl, s9 _ _ htr8, Paired.mapP hws8 fun _ _ z => z.im (Imm.of_same s9), hne, hrlen, hrok, upd_same, fun HA kA hmA => ⟨rfl, ?_⟩⟩
    have s8A : Same H8 HA := fun b o e => kA b o (ne_of_none e nm) (s9 _ _ e)
    exact q HA m rows (Same.trans k07 (Same.trans s78 s8A)) ⟨dm, tr, ws, hmA, s8A _ _ htr8, Paired.mapP hws8 fun _ _ z => z.im (Imm.of_same s8A)⟩ hR
  · exact F.binds0 1 (by intro z; cases z) rfl fun D doc pm an cdv ct us ks h1 h2 => match us, ks, h1, h2 with | [_], [_], _, _ => ⟨_, _, _, _, _, _, rfl, rfl, rfl⟩
  · exact F.kbinds0 1 ["most"] [] (fun us mv ws => us ++ ws) (fun z => by cases z) (fun q hq => by cases hq) (fun r1 _ r3 => r1.append r3)
      (fun D doc pm an cdv ct us mv ws h1 h2 h3 => match us, mv, ws, h1, h2, h3 with | [_], [], [_], _, _, _ => rfl)
end
end Mw


set_option Elab.async false
set_option linter.all false
set_option maxRecDepth 100000
set_option maxHeartbeats 4000000
set_option pp.maxSteps 600
set_option pp.deepTerms false
namespace Mw
open PySem PySem.Spec PyProof.Rows L2
open C8 (Cal pe_c Mak pe_mk)
/-- the dict of such targets -/
def goKV (qs : List (Nat × Nat)) : List (Key × V) := qs.map fun q => (Sum.inl (q.1 : Int), .str (tx [q.2]))
theorem goKV_has : ∀ (qs : List (Nat × Nat)) (g : Nat), (valV (goKV qs) (Sum.inl (g : Int))).isSome = decide (g ∈ qs.map (·.1))
  | [], g => rfl
  | q :: qs, g => by
    unfold goKV
    rw [List.map_cons, List.map_cons]
    by_cases e : q.1 = g
    · rw [valV_pos (by rw [e]), decide_eq_true (by rw [e]; exact List.mem_cons_self ..)]
      rfl
    · have ne : ¬ (Sum.inl (q.1 : Int) : Key) = Sum.inl (g : Int) := fun z => e (Int.ofNat.inj (Sum.inl.inj z))
      rw [valV_neg ne]
      have ih := goKV_has qs g
      unfold goKV at ih
      rw [ih]
      by_cases h : g ∈ qs.map (·.1)
      · rw [decide_eq_true h, decide_eq_true (List.mem_cons_of_mem _ h)]
      · rw [decide_eq_false h, decide_eq_false fun z => (List.mem_cons.mp z).elim (fun y => e y.symm) h]
def GoD (H : Hp) (v : V) (r : MRow) : Prop := ∃ d, v = .ref d ∧ H d = some (.dK (goKV (goalsF r.2)))
theorem GoD.same {H H' : Hp} {v : V} {r : MRow} (h : GoD H v r) (k : Same H H') : GoD H' v r := by
  obtain ⟨d, e1, e2⟩ := h
  exact ⟨d, e1, k _ _ e2⟩
theorem ansV_inj {a b : Ans} (h : ansV a = ansV b) : a = b := by
  cases a with
  | none =>
    cases b with
    | none => rfl
    | some y => cases h
  | some x =>
    cases b with
    | none => cases h
    | some y => rw [tx_inj (V.str.inj h)]
section
variable {P : Program} {w : World} {K : PySem.W.Frag} {mg : Str → Option Value} {base : Heap}
/-! ### goals_of -/
abbrev NGoalsOf : List Str := ["rows", "found", "answer", "targets", "goals", "letter", "goal"]
theorem scGoalsOf : FnScope NGoalsOf ["rows"] (defScope sGoalsOf) := ⟨rfl, rfl, rfl, by decide +kernel, rfl, by decide +kernel, by decide +kernel⟩
def spGoalsOf (P : Program) (w : World) (K : PySem.W.Frag) : Sp := fun vs H Q _ => ∃ (a : Addr) (xs : List V) (rows : List MRow), vs = [.ref a] ∧ H a = some (.tup xs) ∧ Paired (MRowT H) xs rows ∧ rows.length ≤ 2000 ∧ (∀ r ∈ rows, r.2.length = 26) ∧
  ∀ H' r ys, Same H H' → H r = none → H' r = some (.lst ys) → Paired (GoD H') ys rows → Q (.ref r) H'
theorem oGoalsOf (T : Txt K mg) : Cal P w K mg base 1 "goals_of" (spGoalsOf P w K) [] := by
  refine calD (dGoalsOf_fn T) (gGoalsOf T) scGoalsOf (fun vs H Q E h => ?_) (fun _ _ _ _ _ _ us hl => match us, hl with | [_], _ => rfl) (fun cdv A outer s H vs Q E hr h => ?_)
  · obtain ⟨a, xs, rows, rfl, _⟩ := h
    rfl
  · obtain ⟨a, xs, rows, rfl, ha, hx, hn, h26, q⟩ := h
    refine ⟨_, PSs.nox (pss_cons (ps_set (i := 1) scGoalsOf.nd rfl (.inl rfl) (pe_lst pa_nil))
       (pss_cons (ps_for PassesOwn.never rfl (kPiT K rfl (pv 0)) (pg_tup rfl (pgs_cons (pg_name (i := 2) scGoalsOf.nd rfl (.inl rfl)) (pgs_cons (pg_name (i := 3) scGoalsOf.nd rfl (.inl rfl)) pgs_nil)))
       (pss_cons (ps_set (i := 4) scGoalsOf.nd rfl (.inl rfl) pe_dnewK)
       (pss_cons (ps_for PassesOwn.never rfl (pi_zipST (by rfl) (f_zip T) (pa_cons (pe_glob (by rfl) (c_LETTERS T).choose_spec.1 (c_LETTERS T).choose_spec.2) (pa_cons (pv 3) pa_nil))) (pg_tup rfl (pgs_cons (pg_name (i := 5) scGoalsOf.nd rfl (.inl rfl)) (pgs_cons (pg_name (i := 6) scGoalsOf.nd rfl (.inl rfl)) pgs_nil)))
       (pss_one (ps_expr (pe_dsetd (pv 4) (pv 6) (pv 5) ⟨rfl, rfl, rfl, rfl⟩))))
       (pss_one (ps_expr (pe_bm PySem.F.plainAttrs_list PySem.F.slot_list_append PySem.F.type_list_append mt_append (pv 1) (pa_cons (pv 4) pa_nil)))))))
       (pss_one (ps_ret (pv 1))))), ?_⟩
    have hsz : sizeLine = 16777216 := sizeLine_eq
    have hxl : xs.length = rows.length := Paired.length hx
    refine ⟨Nat.zero_le _, fun f nf => ?_⟩
    refine ⟨_, rfl, a, rfl, ⟨_, .inl (.inl (same_upd nf _ _ ha))⟩, for_it (walk_tup (xs := xs)) (fun i σ H2 => ∃ x2 x3 x4 x5 x6 ys, σ = [some (.ref a), some (.ref f), x2, x3, x4, x5, x6] ∧ Same H H2 ∧ H2 f = some (.lst ys) ∧ Paired (GoD H2) ys (rows.take i)) ⟨_, _, _, _, _, [], rfl, same_upd nf, upd_same, .nil⟩ (fun i σ H2 _ ⟨_, _, _, _, _, _, _, k2, _⟩ => .inl (.inl (k2 _ _ ha))) ?_ ?_⟩
    · rintro i x σ H2 H3 hi ⟨x2, x3, x4, x5, x6, ys, rfl, k2, hf2, hys⟩ ⟨e23, hy⟩
      have e32 := e23.symm
      subst e32
      obtain ⟨r, hr, b, c, rfl, hb, hc⟩ := Paired.getL hx hy
      have hrl := h26 r (List.mem_of_getElem? hr)
      refine ⟨b, _, rfl, .inl (.inl (k2 _ _ hb)), rfl, _, _, rfl, _, _, rfl, rfl, ?_⟩
      refine fun d nd => ?_
      have s23 := same_upd (o := .dK []) nd
      have hf3 := s23 _ _ hf2
      have nfd : f ≠ d := ne_of_none hf2 nd
      have hys3 := Paired.mapP hys fun _ _ z => z.same s23
      have ndH : H d = none := by
        cases e : H d with
        | none => rfl
        | some o => rw [k2 _ _ e] at nd; cases nd
      have lsz : ("abcdefghijklmnopqrstuvwxyz" : Str).cps.size = 26 := by decide
      let zs := r.2.zip alphaL
      have zlen : zs.length = 26 := by
        show (r.2.zip alphaL).length = 26
        rw [List.length_zip, hrl]
        decide
      have hab : ("abcdefghijklmnopqrstuvwxyz" : Str) = tx alphaL := by decide +kernel
      have hd3 : (upd H2 d (.dK [])) d = some (.dK (goKV ((zs.take 0).foldl gstep []))) := upd_same
      generalize (upd H2 d (.dK [])) = H3 at s23 hf3 hys3 hd3 ⊢
      have hc3 := s23 _ _ (k2 _ _ hc)
      refine ⟨_, rfl, alphaL, c, natV r.2, by rw [hab], .inl (.inl hc3), for_it walk_G (fun j σ H4 => ∃ x5 x6, σ = [some (.ref a), some (.ref f), some (ansV r.1), some (.ref c), some (.ref d), x5, x6] ∧ Kp (fun x => x = d) H3 H4 ∧ H4 d = some (.dK (goKV ((zs.take j).foldl gstep [])))) ⟨_, _, rfl, Kp.refl, hd3⟩ (fun j σ H4 _ ⟨_, _, _, k4, _⟩ => .inl (.inl (k4.im.tup hc3))) ?_ ?_⟩
      · rintro j x σ H4 H5 hj ⟨y5, y6, rfl, k4, hd4⟩ ⟨T', v1, v2, rfl, nT, rfl, e1, e2⟩
        have hj26 : j < 26 := by
          have h1 : j < min (alphaL.map fun c => V.str (tx [c])).length (natV r.2).length := hj
          rw [List.length_map] at h1
          have : alphaL.length = 26 := by decide
          omega
        have ga : alphaL[j]? = some alphaL[j] := List.getElem?_eq_getElem (by rw [show alphaL.length = 26 by decide]; exact hj26)
        have gt : r.2[j]? = some r.2[j] := List.getElem?_eq_getElem (by omega)
        obtain rfl : v1 = .str (tx [alphaL[j]]) := by
          have h1 : (alphaL.map fun c => V.str (tx [c]))[j]? = some v1 := e1
          rw [List.getElem?_map, ga] at h1
          exact (Option.some.inj h1).symm
        obtain rfl : v2 = .int ((r.2[j] : Nat) : Int) := by
          have h1 : (natV r.2)[j]? = some v2 := e2
          rw [List.getElem?_map, gt] at h1
          exact (Option.some.inj h1).symm
        have k5 := k4.trans (Kp.new (o := .tup [.str (tx [alphaL[j]]), .int ((r.2[j] : Nat) : Int)]) nT)
        have hd5 := same_upd (o := .tup [.str (tx [alphaL[j]]), .int ((r.2[j] : Nat) : Int)]) nT _ _ hd4
        have hT5 : (upd H4 T' (.tup [.str (tx [alphaL[j]]), .int ((r.2[j] : Nat) : Int)])) T' = some (.tup [.str (tx [alphaL[j]]), .int ((r.2[j] : Nat) : Int)]) := upd_same
        generalize (upd H4 T' (.tup [.str (tx [alphaL[j]]), .int ((r.2[j] : Nat) : Int)])) = H5 at k5 hd5 hT5 ⊢
        have gz : zs[j]? = some (r.2[j], alphaL[j]) := by
          show (r.2.zip alphaL)[j]? = _
          rw [List.getElem?_zip_eq_some]
          exact ⟨gt, ga⟩
        have estep : (zs.take (j + 1)).foldl gstep [] = gstep ((zs.take j).foldl gstep []) (r.2[j], alphaL[j]) := by
          rw [List.take_add_one, gz, List.foldl_append]
          rfl
        rw [estep]
        have glen : (goKV ((zs.take j).foldl gstep [])).length < sizeLine := by
          have h1 := (gfold (zs.take j) [] List.nodup_nil).1
          have : ∀ (qs acc : List (Nat × Nat)), (qs.foldl gstep acc).length ≤ acc.length + qs.length := by
            intro qs
            induction qs with
            | nil => intro acc; exact Nat.le_refl _
            | cons q qs ih =>
              intro acc
              have h1 := ih (gstep acc q)
              have h2 : (gstep acc q).length ≤ acc.length + 1 := by
                unfold gstep
                split
                · omega
                · rw [List.length_append]; exact Nat.le_refl _
              show (qs.foldl gstep (gstep acc q)).length ≤ _
              rw [List.length_cons]
              omega
          have h2 := this (zs.take j) []
          rw [List.length_take, List.length_nil] at h2
          unfold goKV
          rw [List.length_map]
          omega
        have hhas := goKV_has ((zs.take j).foldl gstep []) r.2[j]
        refine ⟨T', _, rfl, .inl (.inl hT5), rfl, _, _, rfl, _, _, rfl, rfl, ?_⟩
        refine ⟨_, rfl, d, rfl, .inl ⟨_, .inl hd5⟩, _, rfl, _, rfl, _, Sum.inl ((r.2[j] : Nat) : Int), hd5, rfl, glen, fun v hv => ?_, fun hv => ?_⟩
        · have hin : r.2[j] ∈ ((zs.take j).foldl gstep []).map (·.1) := by
            rw [hv] at hhas
            exact of_decide_eq_true hhas.symm
          have ea : gstep ((zs.take j).foldl gstep []) (r.2[j], alphaL[j]) = (zs.take j).foldl gstep [] := if_pos hin
          rw [ea]
          exact ⟨_, _, rfl, k5, hd5⟩
        · have hin : r.2[j] ∉ ((zs.take j).foldl gstep []).map (·.1) := fun z => by
            rw [hv, decide_eq_true z] at hhas
            cases hhas
          have ea : gstep ((zs.take j).foldl gstep []) (r.2[j], alphaL[j]) = (zs.take j).foldl gstep [] ++ [(r.2[j], alphaL[j])] := if_neg hin
          rw [ea]
          refine ⟨_, _, rfl, k5.trans (Kp.wr rfl hd5 (fun z => z)), ?_⟩
          rw [upd_same, putK_new _ hv]
          unfold goKV
          rw [List.map_append]
          rfl
      · rintro σ H4 ⟨y5, y6, rfl, k4, hd4⟩
        have eall : (zs.take (min (alphaL.map fun c => V.str (tx [c])).length (natV r.2).length)).foldl gstep [] = goalsF r.2 := by
          have h1 : min (alphaL.map fun c => V.str (tx [c])).length (natV r.2).length = 26 := by
            rw [List.length_map, List.length_map, hrl]
            decide
          rw [h1, List.take_of_length_le (by omega)]
          rfl
        rw [eall] at hd4
        have hf4 := k4.kp _ _ hf3 nfd
        have hyl : ys.length = (rows.take i).length := Paired.length hys
        refine ⟨_, rfl, .inl ⟨rfl, _, .inl (.inl hf4)⟩, _, rfl, f, _, _, rfl, rfl, hf4, by rw [hyl, List.length_take]; omega, ?_⟩
        have k04 : Same H H4 := fun b o e => k4.kp b o (s23 _ _ (k2 _ _ e)) (ne_of_none e ndH)
        have nfH : H f = none := by
          cases e : H f with
          | none => rfl
          | some o => rw [e] at nf; cases nf
        refine ⟨_, _, _, _, _, ys ++ [.ref d], rfl, Same.wr k04 nfH, upd_same, ?_⟩
        rw [List.take_add_one, hr]
        refine Paired.snoc ⟨d, rfl, (upd_ne nfd.symm).trans hd4⟩ (Paired.mapP hys fun v r2 z => ?_)
        obtain ⟨d2, rfl, hd2⟩ := z
        have n1 : d2 ≠ d := fun y => by
          have h1 := hd2
          rw [y, nd] at h1
          cases h1
        have n2 : d2 ≠ f := ne_of hd2 hf2 (by intro y; cases y)
        exact ⟨d2, rfl, (upd_ne n2).trans (k4.kp _ _ (s23 _ _ hd2) n1)⟩
    · rintro σ H2 ⟨x2, x3, x4, x5, x6, ys, rfl, k2, hf2, hys⟩
      rw [List.take_of_length_le (by omega)] at hys
      exact ⟨_, rfl, q H2 f ys k2 nf hf2 hys⟩
def EdgeT (H : Hp) (v : V) (e : Edge) : Prop := ∃ a, v = .ref a ∧ H a = some (.tup [.int ((e.ch : Nat) : Int), .int ((e.go : Nat) : Int), .str (tx [e.lt])])
theorem EdgeT.im {H H' : Hp} {v : V} {e : Edge} (h : EdgeT H v e) (k : Imm H H') : EdgeT H' v e := by
  obtain ⟨a, e1, e2⟩ := h
  exact ⟨a, e1, k.tup e2⟩
def EdL (H : Hp) (v : V) (es : List Edge) : Prop := ∃ l vs, v = .ref l ∧ H l = some (.lst vs) ∧ Paired (EdgeT H) vs es
theorem EdL.same {H H' : Hp} {v : V} {es : List Edge} (h : EdL H v es) (k : Same H H') : EdL H' v es := by
  obtain ⟨l, vs, e1, e2, e3⟩ := h
  exact ⟨l, vs, e1, k _ _ e2, Paired.mapP e3 fun _ _ z => z.im (Imm.of_same k)⟩
/-! ### edges_of -/
abbrev NEdgesOf : List Str := ["rows", "found", "answer", "targets", "goals", "goal", "letter"]
theorem scEdgesOf : FnScope NEdgesOf ["rows"] (defScope sEdgesOf) := ⟨rfl, rfl, rfl, by decide +kernel, rfl, by decide +kernel, by decide +kernel⟩
def spEdgesOf (P : Program) (w : World) (K : PySem.W.Frag) : Sp := fun vs H Q _ => ∃ (a : Addr) (xs : List V) (rows : List MRow), vs = [.ref a] ∧ H a = some (.tup xs) ∧ Paired (MRowT H) xs rows ∧ rows.length ≤ 2000 ∧ (∀ r ∈ rows, MRowOk rows.length r) ∧
  ∀ H' r ys, Same H H' → H' r = some (.lst ys) → Paired (EdL H') ys (edgesM rows) → Q (.ref r) H'
theorem oEdgesOf (T : Txt K mg) : Cal P w K mg base 2 "edges_of" (spEdgesOf P w K) [] := by
  refine calD (dEdgesOf_fn T) (gEdgesOf T) scEdgesOf (fun vs H Q E h => ?_) (fun _ _ _ _ _ _ us hl => match us, hl with | [_], _ => rfl) (fun cdv A outer s H vs Q E hr h => ?_)
  · obtain ⟨a, xs, rows, rfl, _⟩ := h
    rfl
  · obtain ⟨a, xs, rows, rfl, ha, hx, hn, hok, q⟩ := h
    refine ⟨_, PSs.nox (pss_cons (ps_set (i := 1) scEdgesOf.nd rfl (.inl rfl) (pe_lst pa_nil))
       (pss_cons (ps_for PassesOwn.never rfl (pi_zipTL (by rfl) (f_zip T) (pa_cons (pv 0) (pa_cons (pe_c (oGoalsOf T) hr (by decide) (by rfl) (pa_cons (pv 0) pa_nil)) pa_nil))) (pg_tup rfl (pgs_cons (pg_tup rfl (pgs_cons (pg_name (i := 2) scEdgesOf.nd rfl (.inr rfl)) (pgs_cons (pg_name (i := 3) scEdgesOf.nd rfl (.inl rfl)) pgs_nil))) (pgs_cons (pg_name (i := 4) scEdgesOf.nd rfl (.inl rfl)) pgs_nil)))
       (pss_one (ps_expr (pe_bm PySem.F.plainAttrs_list PySem.F.slot_list_append PySem.F.type_list_append mt_append (pv 1) (pa_cons (pe_lock (pe_lc (own := [("goal", 5), ("letter", 6)]) (g := gTup K 2 (gCons (gName 5) (gCons (gName 6) gNil))) rfl scEdgesOf.nd (pi_items (pv 4)) (blkOk_by (own := [("goal", 5), ("letter", 6)]) (N := NEdgesOf) (sc := defScope sEdgesOf) (by decide +kernel)) (fun _ _ _ _ _ => (pg_tup rfl (pgs_cons (pg_name (i := 5) scEdgesOf.nd rfl (.inl rfl)) (pgs_cons (pg_name (i := 6) scEdgesOf.nd rfl (.inl rfl)) pgs_nil)))) (fun _ _ _ _ _ => pts_nil) (fun _ _ _ _ _ => (pe_tup (pa_cons (pe_callTy call_int1 (by rfl) (f_int T) (by decide +kernel) (pa_cons (pe_cmpR op_ne (pe_ix (kIxT K rfl) (pe_ix (kIxT K rfl) (pv 0) (pv 5) (fun _ _ => rfl)) pe_int (fun _ _ => rfl)) (pv 2) (nomark _)) pa_nil)) (pa_cons (pv 5) (pa_cons (pv 6) pa_nil))))))) pa_nil)))))
       (pss_one (ps_ret (pv 1))))), ?_⟩
    have hsz : sizeLine = 16777216 := sizeLine_eq
    have hxl : xs.length = rows.length := Paired.length hx
    refine ⟨Nat.zero_le _, fun f nf => ?_⟩
    have s1 := same_upd (o := .lst []) nf
    refine ⟨_, rfl, _, rfl, a, xs, rows, rfl, s1 _ _ ha, Paired.mapP hx fun _ _ z => z.im (Imm.of_same s1), hn, fun r hr => (hok r hr).len, fun H2 gr gs k2 ngr hgr hgs => ?_⟩
    have ngf : gr ≠ f := (ne_of_none upd_same ngr).symm
    have k02 := Same.trans s1 k2
    have hgl : gs.length = rows.length := Paired.length hgs
    have hf2 : H2 f = some (.lst []) := k2 _ _ upd_same
    refine ⟨a, xs, gr, gs, rfl, .inl (.inl (k02 _ _ ha)), .inl (.inl hgr), for_it walk_G (fun i σ H3 => ∃ x2 x3 x4 x5 x6 ys, σ = [some (.ref a), some (.ref f), x2, x3, x4, x5, x6] ∧ Kp (fun x => x = f) H2 H3 ∧ H3 f = some (.lst ys) ∧ Paired (fun v es => v ≠ V.ref f ∧ EdL H3 v es) ys ((edgesM rows).take i))
      ⟨_, _, _, _, _, [], rfl, Kp.refl, hf2, .nil⟩ (fun i σ H3 _ ⟨_, _, _, _, _, _, _, k3, _⟩ => ⟨.inl (.inl (k3.im.tup (k02 _ _ ha))), .inl (.inl (k3.kp _ _ hgr ngf))⟩) ?_ ?_⟩
    · rintro i x σ H3 H4 hi ⟨x2, x3, x4, x5, x6, ys, rfl, k3, hf3, hys⟩ ⟨T', v1, v2, rfl, nT, rfl, e1, e2⟩
      obtain ⟨r, hr, b, c, rfl, hb, hc⟩ := Paired.getL hx e1
      obtain ⟨r2, hr2, d, rfl, hd⟩ := Paired.getL hgs e2
      obtain rfl : r = r2 := Option.some.inj (hr.symm.trans hr2)
      have hir : i < rows.length := (List.getElem?_eq_some_iff.mp hr).1
      have k4 := k3.trans (Kp.new (o := .tup [.ref b, .ref d]) nT)
      have s34 := same_upd (o := .tup [.ref b, .ref d]) nT
      have hT4 : (upd H3 T' (.tup [.ref b, .ref d])) T' = some (.tup [.ref b, .ref d]) := upd_same
      have hf4 := s34 _ _ hf3
      have hys4 : Paired (fun v es => v ≠ V.ref f ∧ EdL _ v es) ys ((edgesM rows).take i) := Paired.mapP hys fun _ _ z => ⟨z.1, z.2.same s34⟩
      generalize (upd H3 T' (.tup [.ref b, .ref d])) = H4 at k4 s34 hT4 hf4 hys4 ⊢
      have hb4 := k4.im.tup (k02 _ _ hb)
      have hdf : d ≠ f := ne_of hd hf2 (by intro z; cases z)
      have hd4 := k4.kp _ _ hd hdf
      have hxs4 := k4.im.tup (k02 _ _ ha)
      have hx4 := Paired.mapP hx fun _ _ z => z.im ((Imm.of_same k02).trans k4.im)
      refine ⟨T', _, rfl, .inl (.inl hT4), rfl, _, _, rfl, b, _, rfl, .inl (.inl hb4), rfl, _, _, rfl, _, _, rfl, rfl, _, _, rfl, rfl, ?_⟩
      refine ⟨_, rfl, .inl ⟨rfl, _, .inl (.inl hf4)⟩, d, _, hd4, trivial, fun od => ?_⟩
      have hfr : (upd H4 d (.frz od (.dK (goKV (goalsF r.2))))) d = some (.frz od (.dK (goKV (goalsF r.2)))) := upd_same
      have kfr : Kp (fun x => x = d) H4 (upd H4 d (.frz od (.dK (goKV (goalsF r.2))))) := Kp.wr rfl hd4 (fun z => z)
      generalize (upd H4 d (.frz od (.dK (goKV (goalsF r.2))))) = H5 at hfr kfr ⊢
      have hxs5 := kfr.im.tup hxs4
      have hglen : (goKV (goalsF r.2)).length ≤ 26 := by
        unfold goKV
        rw [List.length_map]
        exact goalsF_len _
      refine ⟨_, rfl, d, od, _, rfl, hfr, fun D hD => lc_map walk_items noA (fun j zs H2 => Paired (EdgeT H2) zs ((edgesR rows r).take j)) hD id (by omega) (fun j zs H2 _ k _ => k.toSame _ _ hfr) .nil ?_ ?_⟩
      · rintro j y H6 H7 zs hj k6 t6 ⟨T2, w1, w2, rfl, nT2, rfl, f1, f2⟩ eD push
        have hq : ∃ q : Nat × Nat, (goalsF r.2)[j]? = some q ∧ w1 = .int ((q.1 : Nat) : Int) ∧ w2 = .str (tx [q.2]) := by
          have hj2 : (goKV (goalsF r.2))[j]? = ((goalsF r.2)[j]?).map fun q => ((Sum.inl (q.1 : Int) : Key), V.str (tx [q.2])) := by
            unfold goKV
            rw [List.getElem?_map]
          have f1' : Option.map (fun kv => kV kv.1) ((goKV (goalsF r.2))[j]?) = some w1 := f1
          have f2' : Option.map Prod.snd ((goKV (goalsF r.2))[j]?) = some w2 := f2
          rw [hj2] at f1' f2'
          cases hg : (goalsF r.2)[j]? with
          | none => rw [hg] at f1'; cases f1'
          | some q =>
            rw [hg] at f1' f2'
            exact ⟨q, rfl, (Option.some.inj f1').symm, (Option.some.inj f2').symm⟩
        obtain ⟨qq, hq, rfl, rfl⟩ := hq
        obtain ⟨it, hit, _⟩ := goalsF_mem (List.mem_of_getElem? hq)
        have hqlt : qq.1 < rows.length := (hok r (List.mem_of_getElem? hr)).lt _ (List.mem_of_getElem? hit)
        obtain ⟨rg, hrg⟩ : ∃ rg, rows[qq.1]? = some rg := ⟨_, List.getElem?_eq_getElem hqlt⟩
        obtain ⟨vg, hvg, bg, cg, rfl, hbg, hcg⟩ := Paired.get hx4 hrg
        have k67 : Kp noA H6 (upd H6 T2 (.tup [.int ((qq.1 : Nat) : Int), .str (tx [qq.2])])) := Kp.new nT2
        have hT7 : (upd H6 T2 (.tup [.int ((qq.1 : Nat) : Int), .str (tx [qq.2])])) T2 = some (.tup [.int ((qq.1 : Nat) : Int), .str (tx [qq.2])]) := upd_same
        generalize (upd H6 T2 (.tup [.int ((qq.1 : Nat) : Int), .str (tx [qq.2])])) = H7 at k67 hT7 ⊢
        have i57 := k6.im.trans k67.im
        refine ⟨T2, _, rfl, .inl (.inl hT7), rfl, _, _, rfl, _, _, rfl, rfl, rfl, ?_⟩
        have hch : (if (!decide (ansV rg.1 = ansV r.1)) = true then (1 : Int) else 0) = (((edgeR rows r.1 qq).ch : Nat) : Int) := by
          unfold edgeR
          rw [show (rows.getD qq.1 (none, [])) = rg by rw [List.getD_eq_getElem?_getD, hrg]; rfl]
          by_cases e : rg.1 = r.1
          · rw [if_pos e, e]
            simp
          · have e2 : ¬ ansV rg.1 = ansV r.1 := fun z => e (ansV_inj z)
            rw [if_neg e, decide_eq_false e2]
            rfl
        refine ⟨_, rfl, _, rfl, a, _, _, .ref bg, rfl, rfl, .inl (.inl (i57.tup hxs5)), atI_nat hvg, bg, _, _, _, rfl, rfl, .inl (.inl (i57.tup (kfr.im.tup hbg))), rfl, _, rfl, by cases rg.1 <;> cases r.1 <;> rfl, .inr ⟨_, rfl, _, rfl, _, rfl, by show 3 ≤ sizeLine; omega, fun t3 nt3 => push _ _ (k67.trans (Kp.new nt3)) ?_⟩⟩
        rw [hch]
        have e4 := (k67.trans (Kp.new (o := .tup [.int (((edgeR rows r.1 qq).ch : Nat) : Int), .int ((qq.1 : Nat) : Int), .str (tx [qq.2])]) nt3)).kp D _ eD id
        have ge : (edgesR rows r)[j]? = some (edgeR rows r.1 qq) := by
          unfold edgesR
          rw [List.getElem?_map, hq]
          rfl
        have i4 := Imm.wr (o := .lst (zs ++ [.ref t3])) e4 (fun z => z)
        rw [List.take_add_one, ge]
        exact Paired.snoc ⟨t3, rfl, i4.tup upd_same⟩ (Paired.mapP t6 fun _ _ z => z.im (k67.im.trans ((Imm.new nt3).trans i4)))
      intro H6 zs k6 eD t6
      have hel : (edgesR rows r).length = (goalsF r.2).length := by unfold edgesR; rw [List.length_map]
      rw [List.take_of_length_le (by unfold goKV; rw [List.length_map]; omega)] at t6
      refine ⟨k6.toSame _ _ hfr, ?_⟩
      have hd6 := k6.toSame _ _ hfr
      have hDd : D ≠ d := (ne_of_none hfr hD).symm
      have i7 : Imm H6 (upd H6 d (.dK (goKV (goalsF r.2)))) := Imm.wr hd6 (fun z => z)
      have hfd : f ≠ d := hdf.symm
      have hf5 : H5 f = some (.lst ys) := kfr.kp _ _ hf4 hfd
      have hf7 : (upd H6 d (.dK (goKV (goalsF r.2)))) f = some (.lst ys) := (upd_ne hfd).trans (k6.toSame _ _ hf5)
      have hD7 : (upd H6 d (.dK (goKV (goalsF r.2)))) D = some (.lst zs) := (upd_ne hDd).trans eD
      have hyl : ys.length = ((edgesM rows).take i).length := Paired.length hys
      have s47 : Same H4 (upd H6 d (.dK (goKV (goalsF r.2)))) := fun b' o e => by
        by_cases z : b' = d
        · subst z
          rw [upd_same]
          rw [hd4] at e
          exact e
        · rw [upd_ne z]
          exact k6.toSame _ _ (kfr.kp _ _ e z)
      have t7 := Paired.mapP t6 fun _ _ z => z.im i7
      generalize (upd H6 d (.dK (goKV (goalsF r.2)))) = H7 at hf7 hD7 s47 t7 ⊢
      refine ⟨f, _, _, rfl, rfl, hf7, by rw [hyl, List.length_take]; omega, ?_⟩
      have i8 : Imm H7 (upd H7 f (.lst (ys ++ [.ref D]))) := Imm.wr hf7 (fun z => z)
      have hDf : D ≠ f := fun z => by
        rw [z] at hD
        rw [hf5] at hD
        cases hD
      refine ⟨_, _, _, _, _, ys ++ [.ref D], rfl, (k4.trans (Kp.same s47)).trans (Kp.wr rfl hf7 (fun z => z)), upd_same, ?_⟩
      have ge : (edgesM rows)[i]? = some (edgesR rows r) := by
        unfold edgesM
        rw [List.getElem?_map, hr]
        rfl
      rw [List.take_add_one, ge]
      refine Paired.snoc ⟨fun y => hDf (V.ref.inj y), D, zs, rfl, (upd_ne hDf).trans hD7, Paired.mapP t7 fun _ _ z => z.im i8⟩ (Paired.mapP hys4 fun v es z => ?_)
      obtain ⟨nv, l, us, rfl, hl, hus⟩ := z
      have hlf : l ≠ f := fun y => nv (by rw [y])
      exact ⟨nv, l, us, rfl, (upd_ne hlf).trans (s47 _ _ hl), Paired.mapP hus fun _ _ y => y.im ((Imm.of_same s47).trans i8)⟩
    · rintro σ H3 ⟨x2, x3, x4, x5, x6, ys, rfl, k3, hf3, hys⟩
      have nfH : H f = none := nf
      rw [List.take_of_length_le (by unfold edgesM; rw [List.length_map]; omega)] at hys
      exact ⟨_, rfl, q H3 f ys (fun b o e => k3.kp b o (k02 _ _ e) (ne_of_none e nfH)) hf3 (Paired.mapP hys fun _ _ z => z.2)⟩
end
end Mw


set_option Elab.async false
set_option linter.all false
set_option maxRecDepth 100000
set_option maxHeartbeats 4000000
set_option pp.maxSteps 600
set_option pp.deepTerms false
namespace Mw
open PySem PySem.Spec PyProof.Rows L2
open C8 (Cal pe_c Mak pe_mk)
def tmKV (tm : Tm) : List (Key × V) := tm.map fun q => (Sum.inl (q.1 : Int), .str (tx q.2))
theorem tmKV_has : ∀ (tm : Tm) (g : Nat), (valV (tmKV tm) (Sum.inl (g : Int))).isSome = decide (g ∈ tmk tm)
  | [], g => rfl
  | q :: qs, g => by
    unfold tmKV
    rw [List.map_cons]
    by_cases e : q.1 = g
    · rw [valV_pos (by rw [e]), decide_eq_true (show g ∈ tmk (q :: qs) by rw [← e]; exact List.mem_cons_self ..)]
      rfl
    · have ne : ¬ (Sum.inl (q.1 : Int) : Key) = Sum.inl (g : Int) := fun z => e (Int.ofNat.inj (Sum.inl.inj z))
      rw [valV_neg ne]
      have ih := tmKV_has qs g
      unfold tmKV at ih
      rw [ih]
      by_cases h : g ∈ tmk qs
      · rw [decide_eq_true h, decide_eq_true (show g ∈ tmk (q :: qs) from List.mem_cons_of_mem _ h)]
      · rw [decide_eq_false h, decide_eq_false (show g ∉ tmk (q :: qs) from fun z => (List.mem_cons.mp z).elim (fun y => e y.symm) h)]
theorem tmKV_get : ∀ {tm : Tm} {i g : Nat} {t : List Nat}, (tmk tm).Nodup → tm[i]? = some (g, t) → valV (tmKV tm) (Sum.inl (g : Int)) = some (.str (tx t))
  | [], i, g, t, _, h => by simp at h
  | q :: qs, 0, g, t, _, h => by
    cases (Option.some.inj h)
    exact valV_pos rfl
  | q :: qs, i + 1, g, t, nd, h => by
    obtain ⟨h1, h2⟩ := List.nodup_cons.mp nd
    have h3 : qs[i]? = some (g, t) := h
    have ne : ¬ (Sum.inl (q.1 : Int) : Key) = Sum.inl (g : Int) := fun z => h1 (by
      show q.1 ∈ qs.map (·.1)
      rw [Int.ofNat.inj (Sum.inl.inj z)]
      exact List.mem_map.mpr ⟨(g, t), List.mem_of_getElem? h3, rfl⟩)
    unfold tmKV
    rw [List.map_cons, valV_neg ne]
    exact tmKV_get h2 h3
theorem tmKV_snoc (tm : Tm) (q : Nat × List Nat) : tmKV (tm ++ [q]) = tmKV tm ++ [(Sum.inl (q.1 : Int), .str (tx q.2))] := by
  unfold tmKV
  rw [List.map_append]
  rfl
theorem tmk_snoc (tm : Tm) (q : Nat × List Nat) : natV (tmk (tm ++ [q])) = natV (tmk tm) ++ [.int (q.1 : Int)] := by
  unfold natV tmk
  rw [List.map_append, List.map_append]
  rfl
theorem tmKV_len (tm : Tm) : (tmKV tm).length = tm.length := by unfold tmKV; rw [List.length_map]
section
variable {P : Program} {w : World} {K : PySem.W.Frag} {mg : Str → Option Value} {base : Heap}
/-! ### least_texts -/
abbrev NLeastTexts : List Str := ["goals", "texts", "order", "at", "goal", "letter"]
theorem scLeastTexts : FnScope NLeastTexts ["goals"] (defScope sLeastTexts) := ⟨rfl, rfl, rfl, by decide +kernel, rfl, by decide +kernel, by decide +kernel⟩
def spLeastTexts (P : Program) (w : World) (K : PySem.W.Frag) : Sp := fun vs H Q _ => ∃ (gl : Addr) (gs : List V) (rows : List MRow), vs = [.ref gl] ∧ H gl = some (.lst gs) ∧ Paired (GoD H) gs rows ∧ 0 < rows.length ∧ rows.length ≤ 2000 ∧ (∀ r ∈ rows, MRowOk rows.length r) ∧
  ∀ H' d tm, Same H H' → H' d = some (.dK (tmKV tm)) → TmOk rows tm → TmAll rows tm → Q (.ref d) H'
theorem oLeastTexts (T : Txt K mg) : Cal P w K mg base 1 "least_texts" (spLeastTexts P w K) [] := by
  refine calD (dLeastTexts_fn T) (gLeastTexts T) scLeastTexts (fun vs H Q E h => ?_) (fun _ _ _ _ _ _ us hl => match us, hl with | [_], _ => rfl) (fun cdv A outer s H vs Q E hr h => ?_)
  · obtain ⟨gl, gs, rows, rfl, _⟩ := h
    rfl
  · obtain ⟨gl, gs, rows, rfl, hgl, hgs, hpos, hn, hok, q⟩ := h
    have hu := hu_of hr
    refine ⟨_, PSs.nox (pss_cons (ps_par (i := 1) (j := 2) (by rfl) scLeastTexts.nd rfl rfl (by decide) rfl rfl (pa_cons (pe_disp (pps_cons pe_int pe_str pps_nil) (by rfl) (by rfl) (fun z => by cases z) (by decide)) (pa_cons (pe_lst (pa_cons pe_int pa_nil)) pa_nil)) (by rfl))
       (pss_cons (ps_set (i := 3) scLeastTexts.nd rfl (.inl rfl) pe_int)
       (pss_cons (ps_while PassesOwn.never (pt_cmpR op_lt (pv 3) (pe_callB (kLen K rfl) (by rfl) (f_len T) (by decide +kernel) (pa_cons (pv 2) pa_nil)) (nomark _))
       (pss_cons (ps_lock (ps_for PassesOwn.never rfl (pi_items (pe_ix (kIxL K rfl) (pv 0) (pe_ix (kIxL K rfl) (pv 2) (pv 3) (fun _ _ => rfl)) (fun _ _ => rfl))) (pg_tup rfl (pgs_cons (pg_name (i := 4) scLeastTexts.nd rfl (.inl rfl)) (pgs_cons (pg_name (i := 5) scLeastTexts.nd rfl (.inl rfl)) pgs_nil)))
       (pss_one (ps_if (pt_cmp (pc_dnotin hu (pv 4) (pv 1)))
       (pss_cons (ps_dput hu (pv 1) (pv 4) (pe_op op_add_str (pe_dget hu (pv 1) (pe_ix (kIxL K rfl) (pv 2) (pv 3) (fun _ _ => rfl)) (fun _ _ => rfl)) (pv 5)) rfl)
       (pss_one (ps_expr (pe_bm PySem.F.plainAttrs_list PySem.F.slot_list_append PySem.F.type_list_append mt_append (pv 2) (pa_cons (pv 4) pa_nil)))))
       pss_nil))))
       (pss_one (ps_aug (i := 3) scLeastTexts.nd rfl (.inl rfl) pe_int ip_add))))
       (pss_one (ps_ret (pv 1)))))), ?_⟩
    have hsz : sizeLine = 16777216 := sizeLine_eq
    refine fun d nd => ⟨upd_same, [(Sum.inl 0, .str (tx []))], rfl, by show 1 ≤ 15; omega, ⟨by show 1 ≤ sizeLine; omega, fun o no => ⟨_, _, rfl, ?_⟩⟩⟩
    have nod : o ≠ d := (ne_of_none upd_same no).symm
    have nno : H o = none := by
      cases e : H o with
      | none => rfl
      | some u =>
        have h1 : (upd (upd H d (.dK [])) d (.dK (mergeK [] [(Sum.inl 0, .str (tx []))]))) o = some u := by rw [upd_ne nod, upd_ne nod]; exact e
        rw [no] at h1
        cases h1
    have k1 : Same H (upd (upd (upd H d (.dK [])) d (.dK (mergeK [] [(Sum.inl 0, .str (tx []))]))) o (.lst [.int 0])) := Same.wr (Same.wr (same_upd nd) nd) nno
    have hd1 : (upd (upd (upd H d (.dK [])) d (.dK (mergeK [] [(Sum.inl 0, .str (tx []))]))) o (.lst [.int 0])) d = some (.dK (tmKV [(0, [])])) := (upd_ne nod.symm).trans upd_same
    have ho1 : (upd (upd (upd H d (.dK [])) d (.dK (mergeK [] [(Sum.inl 0, .str (tx []))]))) o (.lst [.int 0])) o = some (.lst (natV (tmk [(0, [])]))) := upd_same
    generalize (upd (upd (upd H d (.dK [])) d (.dK (mergeK [] [(Sum.inl 0, .str (tx []))]))) o (.lst [.int 0])) = H1 at k1 hd1 ho1 ⊢
    refine ⟨fun m σ H2 => ∃ k tm x4 x5, m = 2001 - k ∧ σ = [some (.ref gl), some (.ref d), some (.ref o), some (.int ((k : Nat) : Int)), x4, x5] ∧ Same H H2 ∧ H2 d = some (.dK (tmKV tm)) ∧ H2 o = some (.lst (natV (tmk tm))) ∧ TmOk rows tm ∧ 0 ∈ tmk tm ∧
      (∀ i, i < k → ∀ g t, tm[i]? = some (g, t) → ∀ q ∈ goalsF (rows.getD g (none, [])).2, q.1 ∈ tmk tm) ∧ k ≤ tm.length, ⟨_, 0, [(0, [])], none, none, rfl, rfl, k1, hd1, ho1, TmOk.start hpos, List.mem_singleton.mpr rfl, fun i h => absurd h (Nat.not_lt_zero _), Nat.zero_le _⟩, ?_⟩
    rintro m σ H2 ⟨k, tm, x4, x5, rfl, rfl, k2, hd2, ho2, tok, h0, hcl, hk⟩
    have htl := tok.len
    have hnl : (natV (tmk tm)).length = tm.length := by unfold natV; rw [List.length_map, List.length_map]
    refine ⟨_, rfl, _, rfl, o, _, rfl, .inl (.inl (.inl ho2)), _, _, rfl, rfl, _, rfl, ite2 (fun e => ?_) (fun e => ?_)⟩
    · have hlt : k < tm.length := by have := of_decide_eq_true e; omega
      obtain ⟨⟨g, t⟩, hgt⟩ : ∃ q, tm[k]? = some q := ⟨_, List.getElem?_eq_getElem hlt⟩
      have hgm : g ∈ tmk tm := List.mem_map.mpr ⟨(g, t), List.mem_of_getElem? hgt, rfl⟩
      have hglt := tok.lt g hgm
      obtain ⟨tp, tabc, tlen⟩ := tok.at_ k g t hgt
      obtain ⟨rg, hrg⟩ : ∃ rg, rows[g]? = some rg := ⟨_, List.getElem?_eq_getElem hglt⟩
      have hrD : rows.getD g (none, []) = rg := by rw [List.getD_eq_getElem?_getD, hrg]; rfl
      obtain ⟨vg, hvg, dg, rfl, hdg⟩ := Paired.get hgs hrg
      have rok := hok rg (List.mem_of_getElem? hrg)
      have ngd : dg ≠ d := ne_of_none hdg nd
      have ngo : dg ≠ o := ne_of_none hdg nno
      have hgk : (tmk tm).getD k 0 = g := by
        rw [List.getD_eq_getElem?_getD, List.getElem?_map, hgt]
        rfl
      refine ⟨fun σ' H' => ∃ tm x4 x5, σ' = [some (.ref gl), some (.ref d), some (.ref o), some (.int ((k + 1 : Nat) : Int)), x4, x5] ∧ Same H H' ∧ H' d = some (.dK (tmKV tm)) ∧ H' o = some (.lst (natV (tmk tm))) ∧ TmOk rows tm ∧ 0 ∈ tmk tm ∧
        (∀ i, i < k + 1 → ∀ g t, tm[i]? = some (g, t) → ∀ q ∈ goalsF (rows.getD g (none, [])).2, q.1 ∈ tmk tm) ∧ k + 1 ≤ tm.length, fun σ' H' hN => ?_, ?_⟩
      · obtain ⟨tm2, y4, y5, e1, e2⟩ := hN
        exact ⟨2001 - (k + 1), by omega, k + 1, tm2, y4, y5, rfl, e1, e2⟩
      refine ⟨dg, _, k2 _ _ hdg, trivial, fun od => ?_⟩
      have hfr : (upd H2 dg (.frz od (.dK (goKV (goalsF rg.2))))) dg = some (.frz od (.dK (goKV (goalsF rg.2)))) := upd_same
      have hd3 : (upd H2 dg (.frz od (.dK (goKV (goalsF rg.2))))) d = _ := (upd_ne ngd.symm).trans hd2
      have ho3 : (upd H2 dg (.frz od (.dK (goKV (goalsF rg.2))))) o = _ := (upd_ne ngo.symm).trans ho2
      have k23 : ∀ b u, H b = some u → b ≠ dg → (upd H2 dg (.frz od (.dK (goKV (goalsF rg.2))))) b = some u := fun b u e nb => (upd_ne nb).trans (k2 _ _ e)
      have nlg : gl ≠ dg := ne_of hgl hdg (by intro z; cases z)
      have hgl3 := k23 _ _ hgl nlg
      generalize (upd H2 dg (.frz od (.dK (goKV (goalsF rg.2))))) = H3 at hfr hd3 ho3 k23 hgl3 ⊢
      have hglen : (goKV (goalsF rg.2)).length = (goalsF rg.2).length := by unfold goKV; rw [List.length_map]
      refine ⟨_, rfl, _, rfl, _, rfl, o, _, _, _, rfl, rfl, .inl (.inl ho3), natI (by rw [List.length_map]; omega), gl, _, _, .ref dg, rfl, rfl, .inl (.inl hgl3), atI_nat (by rw [hgk]; exact hvg), dg, od, _, rfl, hfr, for_it walk_items (fun j σ H4 => ∃ tm' r x4 x5, tm' = tm ++ r ∧ σ = [some (.ref gl), some (.ref d), some (.ref o), some (.int ((k : Nat) : Int)), x4, x5] ∧ Kp (fun x => x = d ∨ x = o) H3 H4 ∧ H4 d = some (.dK (tmKV tm')) ∧ H4 o = some (.lst (natV (tmk tm'))) ∧ TmOk rows tm' ∧
        (∀ q ∈ (goalsF rg.2).take j, q.1 ∈ tmk tm')) ⟨tm, [], _, _, (List.append_nil _).symm, rfl, Kp.refl, hd3, ho3, tok, fun q hq => by simp at hq⟩ (fun j σ H4 _ ⟨_, _, _, _, _, _, k4, _⟩ => k4.kp _ _ hfr (fun z => z.elim ngd ngo)) ?_ ?_⟩
      · rintro j x σ H4 H5 hj ⟨tm', r, y4, y5, rfl, rfl, k4, hd4, ho4, tok', hj4⟩ ⟨T', w1, w2, rfl, nT2, rfl, f1, f2⟩
        have hq : ∃ q : Nat × Nat, (goalsF rg.2)[j]? = some q ∧ w1 = .int ((q.1 : Nat) : Int) ∧ w2 = .str (tx [q.2]) := by
          have hj2 : (goKV (goalsF rg.2))[j]? = ((goalsF rg.2)[j]?).map fun q => ((Sum.inl (q.1 : Int) : Key), V.str (tx [q.2])) := by
            unfold goKV
            rw [List.getElem?_map]
          have f1' : Option.map (fun kv => kV kv.1) ((goKV (goalsF rg.2))[j]?) = some w1 := f1
          have f2' : Option.map Prod.snd ((goKV (goalsF rg.2))[j]?) = some w2 := f2
          rw [hj2] at f1' f2'
          cases hg : (goalsF rg.2)[j]? with
          | none => rw [hg] at f1'; cases f1'
          | some q =>
            rw [hg] at f1' f2'
            exact ⟨q, rfl, (Option.some.inj f1').symm, (Option.some.inj f2').symm⟩
        obtain ⟨qq, hq, rfl, rfl⟩ := hq
        obtain ⟨it, hit, _⟩ := goalsF_mem (List.mem_of_getElem? hq)
        have hqlt : qq.1 < rows.length := rok.lt _ (List.mem_of_getElem? hit)
        have k5 := k4.trans (Kp.new (o := .tup [.int ((qq.1 : Nat) : Int), .str (tx [qq.2])]) nT2)
        have s45 := same_upd (o := .tup [.int ((qq.1 : Nat) : Int), .str (tx [qq.2])]) nT2
        have hT5 : (upd H4 T' (.tup [.int ((qq.1 : Nat) : Int), .str (tx [qq.2])])) T' = some (.tup [.int ((qq.1 : Nat) : Int), .str (tx [qq.2])]) := upd_same
        have hd5 := s45 _ _ hd4
        have ho5 := s45 _ _ ho4
        generalize (upd H4 T' (.tup [.int ((qq.1 : Nat) : Int), .str (tx [qq.2])])) = H5 at k5 s45 hT5 hd5 ho5 ⊢
        have tok2 := tok'.len
        have htake : ∀ tm2 : Tm, (∀ q ∈ (goalsF rg.2).take j, q.1 ∈ tmk tm2) → qq.1 ∈ tmk tm2 → ∀ q ∈ (goalsF rg.2).take (j + 1), q.1 ∈ tmk tm2 := fun tm2 h1 h2 q hq2 => by
          rw [List.take_add_one, hq] at hq2
          rcases List.mem_append.mp hq2 with z | z
          · exact h1 q z
          · rw [List.mem_singleton.mp z]; exact h2
        have hhas := tmKV_has (tm ++ r) qq.1
        refine ⟨T', _, rfl, .inl (.inl hT5), rfl, _, _, rfl, _, _, rfl, rfl, ?_⟩
        refine ⟨_, rfl, _, rfl, d, _, rfl, DGet.k (k := Sum.inl ((qq.1 : Nat) : Int)) hd5, _, rfl, ?_⟩
        rw [hhas]
        refine ite2 (fun en => ?_) (fun en => ?_)
        · have hnew : qq.1 ∉ tmk (tm ++ r) := fun z => by rw [decide_eq_true z] at en; cases en
          have hgt2 : (tm ++ r)[k]? = some (g, t) := by rw [List.getElem?_append_left hlt]; exact hgt
          have hnk : (tmk (tm ++ r)).getD k 0 = g := by
            rw [List.getD_eq_getElem?_getD, List.getElem?_map, hgt2]
            rfl
          have hval : DGet H5 d (.int ((g : Nat) : Int)) (some (.str (tx t))) := by
            have h1 := DGet.k (k := Sum.inl ((g : Nat) : Int)) hd5
            rw [tmKV_get tok'.nd hgt2] at h1
            exact h1
          have hvn : valV (tmKV (tm ++ r)) (Sum.inl ((qq.1 : Nat) : Int)) = none := by
            cases q0 : valV (tmKV (tm ++ r)) (Sum.inl ((qq.1 : Nat) : Int)) with
            | none => rfl
            | some v =>
              rw [q0, decide_eq_false hnew] at hhas
              cases hhas
          have tnew := tok'.snoc hgt2 (by rw [hrD]; exact List.mem_of_getElem? hq) hqlt hnew
          refine ⟨_, rfl, _, rfl, _, rfl, o, _, _, _, rfl, rfl, .inl (.inl ho5), natI (by rw [List.length_map, List.length_append]; omega), d, _, rfl, by rw [hnk]; exact hval, _, rfl, _, _, rfl, rfl, by rw [tx_len, tx_len]; show t.length + 1 ≤ _; omega, _, rfl, _, rfl, d, _, rfl, DPut.k (k := Sum.inl ((qq.1 : Nat) : Int)) hd5 (by rw [tmKV_len]; omega), ?_⟩
          rw [tx_app, putK_new _ hvn]
          have hd6 : (upd H5 d (.dK (tmKV (tm ++ r) ++ [(Sum.inl ((qq.1 : Nat) : Int), .str (tx (t ++ [qq.2]))) ]))) d = some (.dK (tmKV ((tm ++ r) ++ [(qq.1, t ++ [qq.2])]))) := by
            rw [upd_same, tmKV_snoc]
          have ho6 : (upd H5 d (.dK (tmKV (tm ++ r) ++ [(Sum.inl ((qq.1 : Nat) : Int), .str (tx (t ++ [qq.2]))) ]))) o = some (.lst (natV (tmk (tm ++ r)))) := (upd_ne nod).trans ho5
          have k6 := k5.trans (Kp.wr (A := fun x => x = d ∨ x = o) (o := .dK (tmKV (tm ++ r) ++ [(Sum.inl ((qq.1 : Nat) : Int), .str (tx (t ++ [qq.2]))) ])) (.inl rfl) hd5 (fun z => z))
          generalize (upd H5 d (.dK (tmKV (tm ++ r) ++ [(Sum.inl ((qq.1 : Nat) : Int), .str (tx (t ++ [qq.2]))) ]))) = H6 at hd6 ho6 k6 ⊢
          refine ⟨_, rfl, .inl ⟨rfl, _, .inl (.inl ho6)⟩, _, rfl, o, _, _, rfl, rfl, ho6, by unfold natV; rw [List.length_map, List.length_map]; omega, ?_⟩
          refine ⟨(tm ++ r) ++ [(qq.1, t ++ [qq.2])], r ++ [(qq.1, t ++ [qq.2])], _, _, List.append_assoc .., rfl, k6.trans (Kp.wr (.inr rfl) ho6 (fun z => z)), (upd_ne nod.symm).trans hd6, ?_, tnew, htake _ (fun q hq2 => ?_) ?_⟩
          · rw [upd_same, tmk_snoc]
          · exact List.mem_map.mpr (let ⟨x, hx, e⟩ := List.mem_map.mp (hj4 q hq2); ⟨x, List.mem_append_left _ hx, e⟩)
          · exact List.mem_map.mpr ⟨(qq.1, t ++ [qq.2]), List.mem_append_right _ (List.mem_singleton.mpr rfl), rfl⟩
        · have hold : qq.1 ∈ tmk (tm ++ r) := by
            by_cases z : qq.1 ∈ tmk (tm ++ r)
            · exact z
            · exact absurd (by rw [decide_eq_false z]; rfl) en
          exact ⟨tm ++ r, r, _, _, rfl, rfl, k5, hd5, ho5, tok', htake _ hj4 hold⟩
      · rintro σ H4 ⟨tm', r, y4, y5, rfl, rfl, k4, hd4, ho4, tok', hj4⟩
        rw [List.take_of_length_le (by omega)] at hj4
        have hfr4 := k4.kp _ _ hfr (fun z => z.elim ngd ngo)
        refine ⟨hfr4, ?_⟩
        refine ⟨_, rfl, _, _, rfl, rfl, tm ++ r, _, _, rfl, fun b u e => ?_, (upd_ne ngd.symm).trans hd4, (upd_ne ngo.symm).trans ho4, tok', ?_, fun i hi g2 t2 he q hq => ?_, by rw [List.length_append]; omega⟩
        · by_cases z : b = dg
          · subst z
            rw [upd_same]
            rw [hdg] at e
            exact e
          · rw [upd_ne z]
            exact k4.kp _ _ (k23 _ _ e z) (fun y => y.elim (fun y1 => by rw [y1, nd] at e; cases e) (fun y1 => by rw [y1, nno] at e; cases e))
        · exact List.mem_map.mpr (let ⟨x, hx, e⟩ := List.mem_map.mp h0; ⟨x, List.mem_append_left _ hx, e⟩)
        · rcases Nat.lt_or_ge i k with z | z
          · rw [List.getElem?_append_left (by omega)] at he
            exact List.mem_map.mpr (let ⟨x, hx, e⟩ := List.mem_map.mp (hcl i z g2 t2 he q hq); ⟨x, List.mem_append_left _ hx, e⟩)
          · have : i = k := by omega
            subst this
            rw [List.getElem?_append_left hlt, hgt] at he
            cases (Option.some.inj he)
            rw [hrD] at hq
            exact hj4 q hq
    · have hge : tm.length ≤ k := by
        have h1 : ¬ (((k : Nat) : Int) < ((natV (tmk tm)).length : Int)) := fun z => e (decide_eq_true z)
        omega
      refine ⟨_, rfl, q H2 d tm k2 hd2 tok ⟨h0, fun g hg q hq => ?_⟩⟩
      obtain ⟨x, hx, rfl⟩ := List.mem_map.mp hg
      obtain ⟨i, hi⟩ := List.mem_iff_getElem?.mp hx
      have := (List.getElem?_eq_some_iff.mp hi).1
      exact hcl i (by omega) x.1 x.2 hi q hq
end
end Mw


set_option Elab.async false
set_option linter.all false
set_option maxRecDepth 100000
set_option maxHeartbeats 4000000
set_option pp.maxSteps 600
set_option pp.deepTerms false
namespace Mw
open PySem PySem.Spec PyProof.Rows L2
open C8 (Cal pe_c Mak pe_mk)
def ChT (H : Hp) (v : V) : Option Edge → Prop
  | none => v = .non
  | some e => EdgeT H v e
theorem ChT.im {H H' : Hp} {v : V} {c : Option Edge} (h : ChT H v c) (k : Imm H H') : ChT H' v c := by
  cases c with
  | none => exact h
  | some e => exact EdgeT.im h k
abbrev gW (ws : List Int) : Nat → Int := fun i => ws.getD i 0
abbrev gC (cs : List (Option Edge)) : Nat → Option Edge := fun i => cs.getD i none
def EIn (es : List (List Edge)) (i : Nat) (e : Edge) : Prop := ∃ l, es[i]? = some l ∧ e ∈ l
theorem getD_set {α : Type} {l : List α} {i : Nat} {a d : α} (h : i < l.length) : (fun j => (l.set i a).getD j d) = updF (fun j => l.getD j d) i a := by
  funext j
  by_cases z : j = i
  · subst z
    rw [updF_same]
    rw [List.getD_eq_getElem?_getD, List.getElem?_set_self h]
    rfl
  · rw [updF_ne z]
    rw [List.getD_eq_getElem?_getD, List.getD_eq_getElem?_getD, List.getElem?_set_ne (Ne.symm z)]
theorem sum_set : ∀ {l : List Int} {i : Nat} {a : Int}, i < l.length → (l.set i a).sum = l.sum - l.getD i 0 + a
  | x :: l, 0, a, _ => by
    show a + l.sum = x + l.sum - x + a
    omega
  | x :: l, i + 1, a, h => by
    have ih := sum_set (l := l) (i := i) (a := a) (by simpa using h)
    show x + (l.set i a).sum = x + l.sum - l.getD i 0 + a
    omega
theorem Paired.set {α β : Type} {F : α → β → Prop} {a : α} {b : β} (h : F a b) : ∀ {l1 : List α} {l2 : List β} {i : Nat}, Paired F l1 l2 → Paired F (l1.set i a) (l2.set i b)
  | _, _, _, .nil => .nil
  | _, _, 0, .cons _ t => .cons h t
  | _, _, i + 1, .cons x t => .cons x (Paired.set h (i := i) t)
theorem ixN_nat {n j : Nat} (h : j < n) : ixN n (j : Int) = some j := by
  unfold ixN
  rw [if_pos (by omega), if_pos (by omega)]
  congr 1
/-- the edges stand in H0, the two lists that are changed are none of theirs -/
structure ImpIn (H0 H : Hp) (el wl cl : Addr) (es : List (List Edge)) (ws : List Int) (chs : List (Option Edge)) : Prop where
  ed : ∃ ys, H0 el = some (.lst ys) ∧ Paired (EdL H0) ys es
  nw : H0 wl = none
  nc : H0 cl = none
  ne : wl ≠ cl
  same : Same H0 H
  hw : H wl = some (.lst (ws.map V.int))
  hc : ∃ cs, H cl = some (.lst cs) ∧ Paired (ChT H) cs chs
  lw : ws.length = es.length
  lc : chs.length = es.length
section
variable {P : Program} {w : World} {K : PySem.W.Frag} {mg : Str → Option Value} {base : Heap}
/-! ### improved -/
abbrev NImproved : List Str := ["edges", "p", "q", "worths", "choices", "is_changed", "place", "edge", "wanted"]
theorem scImproved : FnScope NImproved ["edges", "p", "q", "worths", "choices"] (defScope sImproved) := ⟨rfl, rfl, rfl, by decide +kernel, rfl, by decide +kernel, by decide +kernel⟩
def spImproved (P : Program) (w : World) (K : PySem.W.Frag) : Sp := fun vs H Q _ => ∃ (H0 : Hp) (el wl cl : Addr) (p q : Int) (es : List (List Edge)) (ws : List Int) (chs : List (Option Edge)), vs = [.ref el, .int p, .int q, .ref wl, .ref cl] ∧ ImpIn H0 H el wl cl es ws chs ∧ es.length ≤ 2000 ∧
  0 ≤ q ∧ q ≤ 2000 ∧ (∀ l ∈ es, ∀ e ∈ l, e.go < es.length) ∧ FInv p q (EIn es) (gW ws) (gC chs) ∧
  ∀ H' b ws' chs', ImpIn H0 H' el wl cl es ws' chs' → Kp (fun x => x = wl ∨ x = cl) H H' → FInv p q (EIn es) (gW ws') (gC chs') → (b = true → ws.sum < ws'.sum) → (b = false → ∀ i e, EIn es i e → cost p q e + gW ws' e.go ≤ gW ws' i) → Q (.bl b) H'
theorem oImproved (T : Txt K mg) : Cal P w K mg base 1 "improved" (spImproved P w K) [] := by
  refine calD (dImproved_fn T) (gImproved T) scImproved (fun vs H Q E h => ?_) (fun _ _ _ _ _ _ us hl => match us, hl with | [_, _, _, _, _], _ => rfl) (fun cdv A outer s H vs Q E hr h => ?_)
  · obtain ⟨H0, el, wl, cl, p, qq, es, ws, chs, rfl, _⟩ := h
    rfl
  · obtain ⟨H0, el, wl, cl, p, qq, es, ws, chs, rfl, I0, hn, hq0, hq1, hgo, F0, q⟩ := h
    refine ⟨_, PSs.nox (pss_cons (ps_set (i := 5) scImproved.nd rfl (.inl rfl) pe_bl)
       (pss_cons (ps_for PassesOwn.never rfl (pi_range3 (by rfl) (f_range T) (pa_cons (pe_op op_sub (pe_callB (kLen K rfl) (by rfl) (f_len T) (by decide +kernel) (pa_cons (pv 0) pa_nil)) pe_int) (pa_cons (pe_un un_neg pe_int) (pa_cons (pe_un un_neg pe_int) pa_nil)))) (pg_name (i := 6) scImproved.nd rfl (.inl rfl))
       (pss_one (ps_for PassesOwn.never rfl (kPiL K rfl (pe_ix (kIxL K rfl) (pv 0) (pv 6) (fun _ _ => rfl))) (pg_name (i := 7) scImproved.nd rfl (.inl rfl))
       (pss_cons (ps_set (i := 8) scImproved.nd rfl (.inl rfl) (pe_op op_add (pe_op op_sub (pe_op op_mul (pv 2) (pe_ix (kIxT K rfl) (pv 7) pe_int (fun _ _ => rfl))) (pv 1)) (pe_ix (kIxL K rfl) (pv 3) (pe_ix (kIxT K rfl) (pv 7) pe_int (fun _ _ => rfl)) (fun _ _ => rfl))))
       (pss_one (ps_if (pt_cmpR op_gt (pv 8) (pe_ix (kIxL K rfl) (pv 3) (pv 6) (fun _ _ => rfl)) (nomark _))
       (pss_cons (ps_asg (pv 8) (pg_sub (pv 3) (pv 6) set_list))
       (pss_cons (ps_asg (pv 7) (pg_sub (pv 4) (pv 6) set_list))
       (pss_one (ps_set (i := 5) scImproved.nd rfl (.inl rfl) pe_bl))))
       pss_nil))))))
       (pss_one (ps_ret (pv 5))))), ?_⟩
    have hsz : sizeLine = 16777216 := sizeLine_eq
    obtain ⟨ys, hel0, hed0⟩ := I0.ed
    have nel1 : el ≠ wl := ne_of_none hel0 I0.nw
    have nel2 : el ≠ cl := ne_of_none hel0 I0.nc
    have hyl : ys.length = es.length := Paired.length hed0
    have hel := I0.same _ _ hel0
    refine ⟨_, rfl, el, _, rfl, .inl (.inl (.inl hel)), _, _, rfl, rfl, _, rfl, _, rfl, _, _, _, _, rfl, RgC.neg (by omega) (by omega) (by omega) (by omega), ?_⟩
    have hcount : (((ys.length : Nat) : Int) - 1 - -1).toNat = es.length := by omega
    rw [hcount]
    refine for_it walk_rangeC (fun i σ H2 => ∃ b ws' chs' x6 x7 x8, σ = [some (.ref el), some (.int p), some (.int qq), some (.ref wl), some (.ref cl), some (.bl b), x6, x7, x8] ∧ ImpIn H0 H2 el wl cl es ws' chs' ∧ Kp (fun x => x = wl ∨ x = cl) H H2 ∧ FInv p qq (EIn es) (gW ws') (gC chs') ∧ (b = true → ws.sum < ws'.sum) ∧
      (b = false → ws' = ws ∧ ∀ k, es.length - i ≤ k → ∀ e, EIn es k e → cost p qq e + gW ws' e.go ≤ gW ws' k)) ⟨false, ws, chs, _, _, _, rfl, I0, Kp.refl, F0, (fun z => by cases z), fun _ => ⟨rfl, fun k hk e ⟨l, hl, _⟩ => ?_⟩⟩ (fun _ _ _ _ _ => trivial) ?_ ?_
    · have := (List.getElem?_eq_some_iff.mp hl).1
      omega
    · rintro i x σ H2 H3 hi ⟨b, ws1, chs1, x6, x7, x8, rfl, I2, k2, F2, ht, hf⟩ ⟨e32, ex⟩
      have e23 := e32.symm
      subst e23
      have hpl : (((ys.length : Nat) : Int) - 1 + ((i : Nat) : Int) * -1) = ((es.length - 1 - i : Nat) : Int) := by omega
      have ex2 : x = .int ((es.length - 1 - i : Nat) : Int) := ex.trans (congrArg V.int hpl)
      subst ex2
      obtain ⟨l, hl⟩ : ∃ l, es[es.length - 1 - i]? = some l := ⟨_, List.getElem?_eq_getElem (by omega)⟩
      obtain ⟨vl, hvl, le, vs, rfl, hle, hvs⟩ := Paired.get hed0 hl
      have hel3 := I2.same _ _ hel0
      have hle3 := I2.same _ _ hle
      refine ⟨_, rfl, _, rfl, el, _, _, .ref le, rfl, rfl, .inl (.inl hel3), atI_nat hvl, le, rfl, ⟨_, .inl (.inl hle3)⟩, ?_⟩
      refine for_it (walk_list (xs := vs)) (fun j σ H4 => ∃ b ws' chs' x7 x8, σ = [some (.ref el), some (.int p), some (.int qq), some (.ref wl), some (.ref cl), some (.bl b), some (.int ((es.length - 1 - i : Nat) : Int)), x7, x8] ∧ ImpIn H0 H4 el wl cl es ws' chs' ∧ Kp (fun x => x = wl ∨ x = cl) H H4 ∧ FInv p qq (EIn es) (gW ws') (gC chs') ∧ (b = true → ws.sum < ws'.sum) ∧
        (b = false → ws' = ws ∧ (∀ k, es.length - i ≤ k → ∀ e, EIn es k e → cost p qq e + gW ws' e.go ≤ gW ws' k) ∧ ∀ e ∈ l.take j, cost p qq e + gW ws' e.go ≤ gW ws' (es.length - 1 - i))) ⟨b, ws1, chs1, _, _, rfl, I2, k2, F2, ht, fun z => ⟨(hf z).1, (hf z).2, fun e he => by simp at he⟩⟩ (fun j σ H4 _ ⟨_, _, _, _, _, _, I4, _⟩ => .inl (.inl (I4.same _ _ hle))) ?_ ?_
      · rintro j y σ H4 H5 hj ⟨b4, ws4, chs4, z7, z8, rfl, I4, k4, F4, ht4, hf4⟩ ⟨e54, hy⟩
        have e45 := e54.symm
        subst e45
        obtain ⟨e, he, ae, rfl, hae⟩ := Paired.getL hvs hy
        have hel4 := List.mem_of_getElem? he
        have hgoe := hgo l (List.mem_of_getElem? hl) e hel4
        have hae4 := I4.same _ _ hae
        have hEI : EIn es (es.length - 1 - i) e := ⟨l, hl, hel4⟩
        have lw4 := I4.lw
        have lc4 := I4.lc
        refine ⟨_, rfl, _, rfl, ae, _, _, _, rfl, rfl, .inl (.inl hae4), rfl, _, _, rfl, rfl, .inl ⟨by omega, by omega⟩, _, rfl, _, _, rfl, rfl, _, rfl, _, rfl, ae, _, _, _, rfl, rfl, .inl (.inl hae4), rfl, wl, _, _, _, rfl, rfl, .inl (.inl I4.hw), getI (by omega), _, _, rfl, rfl, ?_⟩
        refine ⟨_, rfl, _, rfl, _, rfl, wl, _, _, _, rfl, rfl, .inl (.inl I4.hw), getI (by omega), _, _, rfl, rfl, _, rfl, ite2 (fun ec => ?_) (fun ec => ?_)⟩
        · have hgt : gW ws4 (es.length - 1 - i) < cost p qq e + gW ws4 e.go := of_decide_eq_true ec
          obtain ⟨cs4, hcs4, hpc4⟩ := I4.hc
          have hcl4 : cs4.length = chs4.length := Paired.length hpc4
          have ixw : ixN (ws4.map V.int).length ((es.length - 1 - i : Nat) : Int) = some (es.length - 1 - i) := ixN_nat (by rw [List.length_map]; omega)
          have ixc : ixN cs4.length ((es.length - 1 - i : Nat) : Int) = some (es.length - 1 - i) := ixN_nat (by omega)
          refine ⟨_, rfl, _, rfl, _, rfl, wl, _, _, _, rfl, rfl, I4.hw, ixw, ?_⟩
          have hc5 : (upd H4 wl (.lst ((ws4.map V.int).set (es.length - 1 - i) (.int (cost p qq e + gW ws4 e.go))))) cl = some (.lst cs4) := (upd_ne I4.ne.symm).trans hcs4
          refine ⟨_, rfl, _, rfl, _, rfl, cl, _, _, _, rfl, rfl, hc5, ixc, ?_⟩
          have ka : Kp (fun x => x = wl ∨ x = cl) H4 (upd (upd H4 wl (.lst ((ws4.map V.int).set (es.length - 1 - i) (.int (cost p qq e + gW ws4 e.go))))) cl (.lst (cs4.set (es.length - 1 - i) (.ref ae)))) := (Kp.wr (.inl rfl) I4.hw (fun z => z)).trans (Kp.wr (.inr rfl) hc5 (fun z => z))
          have sameA : Same H0 (upd (upd H4 wl (.lst ((ws4.map V.int).set (es.length - 1 - i) (.int (cost p qq e + gW ws4 e.go))))) cl (.lst (cs4.set (es.length - 1 - i) (.ref ae)))) := Same.wr (Same.wr I4.same I4.nw) I4.nc
          have hsum : (ws4.set (es.length - 1 - i) (cost p qq e + gW ws4 e.go)).sum = ws4.sum - ws4.getD (es.length - 1 - i) 0 + (cost p qq e + gW ws4 e.go) := sum_set (by omega)
          have hstep := F4.step hEI hgt
          have g1 : gW (ws4.set (es.length - 1 - i) (cost p qq e + gW ws4 e.go)) = updF (gW ws4) (es.length - 1 - i) (cost p qq e + gW ws4 e.go) := getD_set (by omega)
          have g2 : gC (chs4.set (es.length - 1 - i) (some e)) = updF (gC chs4) (es.length - 1 - i) (some e) := getD_set (by omega)
          rw [← g1, ← g2] at hstep
          have hgt2 : ws4.getD (es.length - 1 - i) 0 < cost p qq e + gW ws4 e.go := hgt
          refine ⟨true, ws4.set (es.length - 1 - i) (cost p qq e + gW ws4 e.go), chs4.set (es.length - 1 - i) (some e), _, _, rfl, ⟨⟨ys, hel0, hed0⟩, I4.nw, I4.nc, I4.ne, sameA, ?_, ⟨_, upd_same, ?_⟩, by rw [List.length_set]; exact lw4, by rw [List.length_set]; exact lc4⟩, k4.trans ka, hstep, fun _ => ?_, fun z => by cases z⟩
          · rw [upd_ne I4.ne, upd_same, List.map_set]
            rfl
          · exact Paired.set (show ChT _ (.ref ae) (some e) from ⟨ae, rfl, ka.im.tup hae4⟩) (Paired.mapP hpc4 fun _ _ z => z.im ka.im)
          · cases hb : b4 with
            | true => have := ht4 hb; omega
            | false => rw [(hf4 hb).1] at hsum hgt2 ⊢; omega
        · have hle2 : cost p qq e + gW ws4 e.go ≤ gW ws4 (es.length - 1 - i) := by
            have h1 : ¬ (cost p qq e + gW ws4 e.go > ws4.getD (es.length - 1 - i) 0) := fun z => ec (decide_eq_true z)
            show _ ≤ ws4.getD _ 0
            omega
          refine ⟨b4, ws4, chs4, _, _, rfl, I4, k4, F4, ht4, fun z => ⟨(hf4 z).1, (hf4 z).2.1, fun e2 he2 => ?_⟩⟩
          rw [List.take_add_one, he] at he2
          rcases List.mem_append.mp he2 with y | y
          · exact (hf4 z).2.2 e2 y
          · rw [List.mem_singleton.mp y]; exact hle2
      · rintro σ H4 ⟨b4, ws4, chs4, z7, z8, rfl, I4, k4, F4, ht4, hf4⟩
        refine ⟨b4, ws4, chs4, _, _, _, rfl, I4, k4, F4, ht4, fun z => ⟨(hf4 z).1, fun k hk e hE => ?_⟩⟩
        have hvl2 : vs.length = l.length := Paired.length hvs
        rcases Nat.lt_or_ge k (es.length - i) with y | y
        · have : k = es.length - 1 - i := by omega
          subst this
          obtain ⟨l2, hl2, he2⟩ := hE
          obtain rfl : l = l2 := Option.some.inj (hl.symm.trans hl2)
          exact (hf4 z).2.2 e (by rw [List.take_of_length_le (by omega)]; exact he2)
        · exact (hf4 z).2.1 k y e hE
    · rintro σ H2 ⟨b, ws1, chs1, x6, x7, x8, rfl, I2, k2, F2, ht, hf⟩
      exact ⟨_, rfl, q H2 b ws1 chs1 I2 k2 F2 ht fun z k e hE => (hf z).2 k (by omega) e hE⟩
end
end Mw


set_option Elab.async false
set_option linter.all false
set_option maxRecDepth 100000
set_option maxHeartbeats 4000000
set_option pp.maxSteps 600
set_option pp.deepTerms false
namespace Mw
open PySem PySem.Spec PyProof.Rows L2
open C8 (Cal pe_c Mak pe_mk)
theorem eqV_nat (x y : Nat) : eqV (.int (y : Int)) (.int (x : Int)) = decide (x = y) := by
  show (((y : Nat) : Int) == ((x : Nat) : Int)) = _
  by_cases q : x = y
  · rw [q]; simp
  · rw [decide_eq_false q]
    exact beq_eq_false_iff_ne.mpr fun z => q (Int.ofNat.inj z).symm
theorem natV_flat (l : List Nat) : (natV l).all flatV = true := by
  unfold natV
  rw [List.all_map]
  exact List.all_eq_true.mpr fun x _ => rfl
theorem inV_nat (x : Nat) (l : List Nat) : inV (.int (x : Int)) (natV l) = decide (x ∈ l) := by
  unfold inV natV
  rw [List.any_map]
  induction l with
  | nil => rfl
  | cons y l ih =>
    rw [List.any_cons, ih]
    show (eqV (.int (y : Int)) (.int (x : Int)) || _) = _
    rw [eqV_nat, ← Bool.decide_or]
    congr 1
    rw [List.mem_cons]
theorem cut_nat (l : List Nat) (j : Nat) (h : j ≤ l.length) : cutV (natV l) (some (j : Int)) none = natV (l.drop j) := by
  unfold cutV natV
  have e1 : HT.sIx (l.map fun n : Nat => V.int (n : Int)).length 0 (some (j : Int)) = j := by
    rw [List.length_map, HT.sIx_nat]
    omega
  have e2 : HT.sIx (l.map fun n : Nat => V.int (n : Int)).length (l.map fun n : Nat => V.int (n : Int)).length none = (l.map fun n : Nat => V.int (n : Int)).length := rfl
  rw [e1, e2, List.take_of_length_le (by rw [List.length_drop]; omega), List.map_drop]
theorem nodup_bound : ∀ {n : Nat} {l : List Nat}, l.Nodup → (∀ k ∈ l, k < n) → l.length ≤ n
  | n, l, nd, h => by
    have h1 := nodup_len l (List.range n) nd fun k hk => List.mem_range.mpr (h k hk)
    rw [List.length_range] at h1
    exact h1
/-- the places that were seen -/
def Done (H : Hp) (d : Addr) (D : List Nat) : Prop := ∃ kvs : List (Key × V), H d = some (.dK kvs) ∧ kvs.length = D.length ∧ ∀ g : Nat, (valV kvs (Sum.inl (g : Int))).isSome = decide (g ∈ D)
section
variable {P : Program} {w : World} {K : PySem.W.Frag} {mg : Str → Option Value} {base : Heap}
/-! ### ring_in -/
abbrev NRingIn : List Str := ["choices", "done", "start", "path", "place"]
theorem scRingIn : FnScope NRingIn ["choices"] (defScope sRingIn) := ⟨rfl, rfl, rfl, by decide +kernel, rfl, by decide +kernel, by decide +kernel⟩
def spRingIn (P : Program) (w : World) (K : PySem.W.Frag) : Sp := fun vs H Q _ => ∃ (cl : Addr) (cs : List V) (chs : List (Option Edge)), vs = [.ref cl] ∧ H cl = some (.lst cs) ∧ Paired (ChT H) cs chs ∧ chs.length ≤ 2000 ∧ (∀ i e, gC chs i = some e → e.go < chs.length) ∧
  (∀ H', Same H H' → (∀ p q i, i < chs.length → Good p q (gC chs) chs.length i) → Q .non H') ∧
  ∀ H' r ring, Same H H' → H' r = some (.lst (natV ring)) → RingR (gC chs) chs.length ring → Q (.ref r) H'
theorem oRingIn (T : Txt K mg) : Cal P w K mg base 1 "ring_in" (spRingIn P w K) [] := by
  refine calD (dRingIn_fn T) (gRingIn T) scRingIn (fun vs H Q E h => ?_) (fun _ _ _ _ _ _ us hl => match us, hl with | [_], _ => rfl) (fun cdv A outer s H vs Q E hr h => ?_)
  · obtain ⟨cl, cs, chs, rfl, _⟩ := h
    rfl
  · obtain ⟨cl, cs, chs, rfl, hcl, hcs, hn, hgo, q1, q2⟩ := h
    have hu := hu_of hr
    refine ⟨_, PSs.nox (pss_cons (ps_set (i := 1) scRingIn.nd rfl (.inl rfl) pe_dnewK)
       (pss_cons (ps_for PassesOwn.never rfl (pi_range1 (by rfl) (f_range T) (pa_cons (pe_callB (kLen K rfl) (by rfl) (f_len T) (by decide +kernel) (pa_cons (pv 0) pa_nil)) pa_nil)) (pg_name (i := 2) scRingIn.nd rfl (.inl rfl))
       (pss_cons (ps_par (i := 3) (j := 4) (by rfl) scRingIn.nd rfl rfl (by decide) rfl rfl (pa_cons (pe_lst pa_nil) (pa_cons (pv 2) pa_nil)) (by rfl))
       (pss_cons (ps_while PassesOwn.never (PW.pt (pw_and (pt_cmp (pc_dnotin hu (pv 4) (pv 1))) (pw_and1 (pt_cmpR op_notN (pe_ix (kIxL K rfl) (pv 0) (pv 4) (fun _ _ => rfl)) pe_non (nomark _)))))
       (pss_cons (ps_dput hu (pv 1) (pv 4) (pv 2) rfl)
       (pss_cons (ps_expr (pe_bm PySem.F.plainAttrs_list PySem.F.slot_list_append PySem.F.type_list_append mt_append (pv 3) (pa_cons (pv 4) pa_nil)))
       (pss_one (ps_set (i := 4) scRingIn.nd rfl (.inl rfl) (pe_ix (kIxT K rfl) (pe_ix (kIxL K rfl) (pv 0) (pv 4) (fun _ _ => rfl)) pe_int (fun _ _ => rfl)))))))
       (pss_one (ps_if (pt_cmpR (kIn K rfl) (pv 4) (pv 3) (by rfl))
       (pss_one (ps_ret (pe_slice (kSlL K rfl) (pv 3) (po_some (pe_bm PySem.F.plainAttrs_list PySem.F.slot_list_index PySem.F.type_list_index (kIndex K rfl) (pv 3) (pa_cons (pv 4) pa_nil))) po_none)))
       pss_nil)))))
       (pss_one (ps_ret pe_non)))), ?_⟩
    have hsz : sizeLine = 16777216 := sizeLine_eq
    have hlen : cs.length = chs.length := Paired.length hcs
    refine fun d nd => ?_
    have s1 : Same H (upd H d (.dK [])) := same_upd nd
    have hd1 : (upd H d (.dK [])) d = some (.dK []) := upd_same
    generalize (upd H d (.dK [])) = H1 at s1 hd1 ⊢
    refine ⟨_, rfl, cl, _, rfl, .inl (.inl (.inl (s1 _ _ hcl))), _, rfl, by omega, by omega, ?_⟩
    have hcount : (((cs.length : Nat) : Int)).toNat = chs.length := by omega
    refine for_it walk_range (fun i σ H2 => ∃ D0 x2 x3 x4, σ = [some (.ref cl), some (.ref d), x2, x3, x4] ∧ Same H H2 ∧ Done H2 d D0 ∧ D0.Nodup ∧ (∀ k ∈ D0, k < chs.length) ∧ (∀ k, k < i → k < chs.length → (gC chs k).isSome = true → k ∈ D0) ∧ (∀ p q, ∀ k ∈ D0, Good p q (gC chs) D0.length k)) ?_ ?_ ?_ ?_
    · exact ⟨[], _, _, _, rfl, s1, ⟨[], hd1, rfl, fun g => rfl⟩, .nil, fun k z => by simp at z, fun k z => by omega, fun p q k z => by simp at z⟩
    · exact fun _ _ _ _ _ => trivial
    · rintro i x σ H2 H3 hi ⟨D0, x2, x3, x4, rfl, s2, hD, nd0, lt0, st0, gd0⟩ ⟨e32, ex⟩
      have e23 := e32.symm
      subst e23
      have ex2 : x = .int ((i : Nat) : Int) := ex.trans (congrArg V.int (by omega))
      subst ex2
      refine ⟨by show 0 ≤ sizeLine; omega, fun pa npa => ?_⟩
      have s3 : Same H (upd H2 pa (.lst [])) := s2.trans (same_upd npa)
      have hpa3 : (upd H2 pa (.lst [])) pa = some (.lst (natV [])) := upd_same
      have npd : pa ≠ d := by
        obtain ⟨kvs, h1, _⟩ := hD
        exact fun z => by rw [← z, npa] at h1; cases h1
      have hD3 : Done (upd H2 pa (.lst [])) d D0 := by
        obtain ⟨kvs, h1, h2⟩ := hD
        exact ⟨kvs, (upd_ne npd.symm).trans h1, h2⟩
      have npa0 : H pa = none := by
        cases e : H pa with
        | none => rfl
        | some u => rw [s2 _ _ e] at npa; cases npa
      generalize (upd H2 pa (.lst [])) = H3 at s3 hpa3 hD3 ⊢
      have si : Done H3 d (D0 ++ []) := by rw [List.append_nil]; exact hD3
      refine ⟨_, rfl, _, _, rfl, ?_⟩
      refine ⟨fun m σ H4 => ∃ path place, m = chs.length - (D0 ++ path).length ∧ σ = [some (.ref cl), some (.ref d), some (.int ((i : Nat) : Int)), some (.ref pa), some (.int ((place : Nat) : Int))] ∧ Same H H4 ∧ Done H4 d (D0 ++ path) ∧ H4 pa = some (.lst (natV path)) ∧ (D0 ++ path).Nodup ∧ (∀ k ∈ D0 ++ path, k < chs.length) ∧ place < chs.length ∧ ChainTo (gC chs) path place ∧ i = path.headD place, ⟨_, [], i, rfl, rfl, s3, si, hpa3, by rw [List.append_nil]; exact nd0, by rw [List.append_nil]; exact lt0, by omega, trivial, rfl⟩, ?_⟩
      rintro m σ H4 ⟨path, place, rfl, rfl, s4, hD4, hpa4, nd4, lt4, hpl, hch, hhd⟩
      obtain ⟨kvs, hk1, hk2, hk3⟩ := hD4
      have hcl4 := s4 _ _ hcl
      obtain ⟨ce, hce⟩ : ∃ c, chs[place]? = some c := ⟨_, List.getElem?_eq_getElem hpl⟩
      obtain ⟨vc, hvc, hcv⟩ := Paired.get hcs hce
      have hgC : gC chs place = ce := by show chs.getD place none = ce; rw [List.getD_eq_getElem?_getD, hce]; rfl
      refine ⟨_, rfl, _, rfl, d, _, rfl, DGet.k (k := Sum.inl ((place : Nat) : Int)) hk1, _, rfl, ?_⟩
      rw [hk3]
      by_cases hin : place ∈ D0 ++ path
      · rw [decide_eq_true hin]
        simp only [Bool.not_true, Bool.false_eq_true, ↓reduceIte]
        refine ⟨_, rfl, _, rfl, pa, _, rfl, .inl (.inl (.inl hpa4)), rfl, natV_flat _, _, rfl, ?_⟩
        show if inV (.int (place : Int)) (natV path) = true then _ else _
        rw [inV_nat]
        by_cases hp : place ∈ path
        · refine iteD hp ?_
          obtain ⟨j, hj⟩ := List.mem_iff_getElem?.mp hp
          have hjl : j < path.length := (List.getElem?_eq_some_iff.mp hj).1
          have ndp : path.Nodup := (List.nodup_append.mp nd4).2.1
          have hget : (natV path)[j]? = some (.int ((place : Nat) : Int)) := by unfold natV; rw [List.getElem?_map, hj]; rfl
          have hfirst : ∀ (m : Nat) (z' : V), m < j → (natV path)[m]? = some z' → eqV z' (.int ((place : Nat) : Int)) = false := by
            intro m z' hm hz
            unfold natV at hz
            rw [List.getElem?_map, List.getElem?_eq_getElem (by omega)] at hz
            have hz2 := (Option.some.inj hz).symm
            subst hz2
            rw [eqV_nat]
            refine decide_eq_false fun z => ?_
            have h2 := (List.getElem?_inj (by omega) ndp).mp ((List.getElem?_eq_getElem (show m < path.length by omega)).trans ((congrArg some z.symm).trans hj.symm))
            omega
          refine ⟨_, rfl, _, rfl, .inl ⟨rfl, _, .inl (.inl hpa4)⟩, _, rfl, pa, _, _, j, _, rfl, rfl, .inl (.inl hpa4), rfl, natV_flat _, hget, by rw [eqV_nat]; simp, hfirst, _, rfl, pa, _, rfl, .inl (.inl hpa4), fun r nr => ?_⟩
          rw [cut_nat path j (by omega)]
          have hdr : path.drop j ≠ [] := fun z => by
            have h3 := congrArg List.length z
            rw [List.length_drop] at h3
            simp at h3
            omega
          have hhd2 : (path.drop j).headD 0 = place := by
            rw [List.headD_eq_head?_getD, List.head?_drop, hj]
            rfl
          refine q2 _ r (path.drop j) (s4.trans (same_upd nr)) upd_same ⟨hdr, ?_, ndp.sublist (List.drop_sublist ..), fun k hk => lt4 k (List.mem_append_right _ (List.mem_of_mem_drop hk))⟩
          rw [hhd2]
          exact hch.drop j
        · refine iteDn hp ?_
          have hpD : place ∈ D0 := (List.mem_append.mp hin).resolve_right hp
          refine ⟨D0 ++ path, _, _, _, rfl, s4, ⟨kvs, hk1, hk2, hk3⟩, nd4, lt4, fun k hk hkn hks => ?_, fun p q k hk => ?_⟩
          · rcases Nat.lt_or_ge k i with y | y
            · exact List.mem_append_left _ (st0 k y hkn hks)
            · have : k = i := by omega
              subst this
              cases path with
              | nil => rw [hhd]; exact hin
              | cons a l => rw [hhd]; exact List.mem_append_right _ (List.mem_cons_self ..)
          · rw [List.length_append]
            rcases List.mem_append.mp hk with y | y
            · exact (gd0 p q k y).mono (by omega)
            · exact hch.good (gd0 p q place hpD) k y
      · rw [decide_eq_false hin]
        refine ⟨_, rfl, _, rfl, cl, _, _, vc, rfl, rfl, .inl (.inl hcl4), atI_nat hvc, rfl, _, rfl, ?_⟩
        cases ce with
        | none =>
          have hvn : vc = .non := hcv
          subst hvn
          refine iteF ?_
          have hp : place ∉ path := fun z => hin (List.mem_append_right _ z)
          refine ⟨_, rfl, _, rfl, pa, _, rfl, .inl (.inl (.inl hpa4)), rfl, natV_flat _, _, rfl, ?_⟩
          show if inV (.int (place : Int)) (natV path) = true then _ else _
          rw [inV_nat]
          refine iteDn hp ?_
          refine ⟨D0 ++ path, _, _, _, rfl, s4, ⟨kvs, hk1, hk2, hk3⟩, nd4, lt4, fun k hk hkn hks => ?_, fun p q k hk => ?_⟩
          · rcases Nat.lt_or_ge k i with y | y
            · exact List.mem_append_left _ (st0 k y hkn hks)
            · have : k = i := by omega
              subst this
              cases path with
              | nil =>
                have e3 : k = place := hhd
                rw [e3, hgC] at hks
                cases hks
              | cons a l => rw [hhd]; exact List.mem_append_right _ (List.mem_cons_self ..)
          · rw [List.length_append]
            rcases List.mem_append.mp hk with y | y
            · exact (gd0 p q k y).mono (by omega)
            · have g0 : Good p q (gC chs) 0 place := ⟨place, 0, 0, .nil place, hgC, Nat.le_refl _⟩
              exact (hch.good g0 k y).mono (by omega)
        | some e =>
          obtain ⟨ae, rfl, hae⟩ := hcv
          refine iteT ?_
          have hgoe := hgo place e hgC
          have hal : D0 ++ (path ++ [place]) = (D0 ++ path) ++ [place] := (List.append_assoc ..).symm
          have nd5 : ((D0 ++ path) ++ [place]).Nodup := List.nodup_append.mpr ⟨nd4, List.nodup_cons.mpr ⟨fun z => by simp at z, .nil⟩, fun a ha b hb z => hin (by rw [← List.mem_singleton.mp hb, ← z]; exact ha)⟩
          have lt5 : ∀ k ∈ (D0 ++ path) ++ [place], k < chs.length := fun k hk => by
            rcases List.mem_append.mp hk with y | y
            · exact lt4 k y
            · rw [List.mem_singleton.mp y]; exact hpl
          have hb5 := nodup_bound nd5 lt5
          rw [List.length_append, List.length_singleton] at hb5
          have hpl5 : path.length ≤ 2000 := by
            have h9 := List.length_append (as := D0) (bs := path)
            omega
          refine ⟨fun σ' H' => σ' = [some (.ref cl), some (.ref d), some (.int ((i : Nat) : Int)), some (.ref pa), some (.int ((e.go : Nat) : Int))] ∧ Same H H' ∧ Done H' d ((D0 ++ path) ++ [place]) ∧ H' pa = some (.lst (natV (path ++ [place]))), fun σ' H' hN => ?_, ?_⟩
          · obtain ⟨n1, n2, n3, n4⟩ := hN
            refine ⟨chs.length - (D0 ++ (path ++ [place])).length, ?_, path ++ [place], e.go, rfl, n1, n2, by rw [hal]; exact n3, n4, by rw [hal]; exact nd5, by rw [hal]; exact lt5, hgoe, hch.snoc hgC rfl, ?_⟩
            · rw [hal, List.length_append (as := D0 ++ path), List.length_singleton]; omega
            · rw [hhd]; cases path with
              | nil => rfl
              | cons a l => rfl
          refine ⟨_, rfl, _, rfl, _, rfl, d, _, rfl, DPut.k (k := Sum.inl ((place : Nat) : Int)) hk1 (by rw [hk2]; omega), ?_⟩
          have hvn : valV kvs (Sum.inl ((place : Nat) : Int)) = none := by
            have h1 := hk3 place
            rw [decide_eq_false hin] at h1
            cases q0 : valV kvs (Sum.inl ((place : Nat) : Int)) with
            | none => rfl
            | some v => rw [q0] at h1; cases h1
          rw [putK_new _ hvn]
          obtain ⟨npd2, npd3⟩ : pa ≠ d ∧ d ≠ pa := ⟨npd, npd.symm⟩
          have hk6 : (upd H4 d (.dK (kvs ++ [(Sum.inl ((place : Nat) : Int), .int ((i : Nat) : Int))]))) d = some (.dK (kvs ++ [(Sum.inl ((place : Nat) : Int), .int ((i : Nat) : Int))])) := upd_same
          have hpa6 : (upd H4 d (.dK (kvs ++ [(Sum.inl ((place : Nat) : Int), .int ((i : Nat) : Int))]))) pa = _ := (upd_ne npd).trans hpa4
          have s6 : Same H (upd H4 d (.dK (kvs ++ [(Sum.inl ((place : Nat) : Int), .int ((i : Nat) : Int))]))) := Same.wr s4 nd
          generalize (upd H4 d (.dK (kvs ++ [(Sum.inl ((place : Nat) : Int), .int ((i : Nat) : Int))]))) = H6 at hk6 hpa6 s6 ⊢
          refine ⟨_, rfl, .inl ⟨rfl, _, .inl (.inl hpa6)⟩, _, rfl, pa, _, _, rfl, rfl, hpa6, by unfold natV; rw [List.length_map]; omega, ?_⟩
          have s7 : Same H (upd H6 pa (.lst (natV path ++ [.int ((place : Nat) : Int)]))) := Same.wr s6 npa0
          have hk7 : (upd H6 pa (.lst (natV path ++ [.int ((place : Nat) : Int)]))) d = _ := (upd_ne npd3).trans hk6
          have hpa7 : (upd H6 pa (.lst (natV path ++ [.int ((place : Nat) : Int)]))) pa = some (.lst (natV (path ++ [place]))) := by
            rw [upd_same]
            unfold natV
            rw [List.map_append]
            rfl
          generalize (upd H6 pa (.lst (natV path ++ [.int ((place : Nat) : Int)]))) = H7 at s7 hk7 hpa7 ⊢
          refine ⟨_, rfl, _, rfl, cl, _, _, .ref ae, rfl, rfl, .inl (.inl (s7 _ _ hcl)), atI_nat hvc, ae, _, _, _, rfl, rfl, .inl (.inl (s7 _ _ hae)), rfl, ?_⟩
          refine ⟨rfl, s7, ⟨_, hk7, by rw [List.length_append, List.length_append, hk2]; rfl, fun g => ?_⟩, hpa7⟩
          have hvs := hk3 g
          rw [valV_snoc _ _ _ _ hvn]
          by_cases eg : place = g
          · subst eg
            rw [if_pos rfl, decide_eq_true (show place ∈ (D0 ++ path) ++ [place] from List.mem_append_right _ (List.mem_singleton.mpr rfl))]
            rfl
          · have ne : ¬ (Sum.inl ((g : Nat) : Int) : Key) = Sum.inl ((place : Nat) : Int) := fun z => eg (Int.ofNat.inj (Sum.inl.inj z)).symm
            rw [if_neg ne, hvs]
            by_cases h8 : g ∈ D0 ++ path
            · rw [decide_eq_true h8, decide_eq_true (List.mem_append_left _ h8)]
            · rw [decide_eq_false h8, decide_eq_false fun z => (List.mem_append.mp z).elim h8 fun y => eg (List.mem_singleton.mp y).symm]
    · rintro σ H2 ⟨D0, x2, x3, x4, rfl, s2, hD, nd0, lt0, st0, gd0⟩
      refine q1 H2 s2 fun p q k hk => ?_
      cases e : gC chs k with
      | none => exact ⟨k, 0, 0, .nil k, e, by omega⟩
      | some f => exact (gd0 p q k (st0 k (by omega) hk (by rw [e]; rfl))).mono (nodup_bound nd0 lt0)
end
end Mw


set_option Elab.async false
set_option linter.all false
set_option maxRecDepth 100000
set_option maxHeartbeats 4000000
set_option pp.maxSteps 600
set_option pp.deepTerms false
namespace Mw
open PySem PySem.Spec PyProof.Rows L2
open C8 (Cal pe_c Mak pe_mk)
theorem sum_le_mul {B : Int} : ∀ {l : List Int}, (∀ i, i < l.length → gW l i ≤ B) → l.sum ≤ (l.length : Int) * B
  | [], _ => by simp
  | x :: l, h => by
    have h0 : x ≤ B := h 0 (Nat.succ_pos _)
    have ih := sum_le_mul (l := l) fun i hi => h (i + 1) (Nat.succ_lt_succ hi)
    rw [List.sum_cons, List.length_cons, show (((l.length + 1 : Nat)) : Int) = (l.length : Int) + 1 by omega, Int.add_mul, Int.one_mul]
    omega
section
variable {P : Program} {w : World} {K : PySem.W.Frag} {mg : Str → Option Value} {base : Heap}
/-! ### worths_or_ring -/
abbrev NWorthsOrRing : List Str := ["edges", "p", "q", "worths", "choices", "places", "place"]
theorem scWorthsOrRing : FnScope NWorthsOrRing ["edges", "p", "q"] (defScope sWorthsOrRing) := ⟨rfl, rfl, rfl, by decide +kernel, rfl, by decide +kernel, by decide +kernel⟩
def spWorthsOrRing (P : Program) (w : World) (K : PySem.W.Frag) : Sp := fun vs H Q _ => ∃ (el : Addr) (p q : Int) (ys : List V) (es : List (List Edge)), vs = [.ref el, .int p, .int q] ∧ H el = some (.lst ys) ∧ Paired (EdL H) ys es ∧ es.length ≤ 2000 ∧ 0 ≤ p ∧ 0 ≤ q ∧ q ≤ 2000 ∧ (∀ l ∈ es, ∀ e ∈ l, e.go < es.length ∧ e.ch ≤ 1) ∧
  (∀ H' T tt ws, Same H H' → H' T = some (.tup [.ref tt, .non, .non]) → H' tt = some (.tup (ws.map V.int)) → ws.length = es.length → (∀ x ∈ ws, 0 ≤ x) → (∀ i e, EIn es i e → cost p q e + gW ws e.go ≤ gW ws i) → Q (.ref T) H') ∧
  ∀ H' T pl tl places taken us C, Same H H' → H' T = some (.tup [.non, .ref pl, .ref tl]) → H' pl = some (.lst (natV places)) → H' tl = some (.lst us) → Paired (EdgeT H') us taken → RingR C es.length places → Paired (fun i e => C i = some e) places taken → Paired (fun i e => EIn es i e) places taken → 0 < (taken.map (cost p q)).sum → Q (.ref T) H'
theorem oWorthsOrRing (T : Txt K mg) : Cal P w K mg base 2 "worths_or_ring" (spWorthsOrRing P w K) [] := by
  refine calD (dWorthsOrRing_fn T) (gWorthsOrRing T) scWorthsOrRing (fun vs H Q E h => ?_) (fun _ _ _ _ _ _ us hl => match us, hl with | [_, _, _], _ => rfl) (fun cdv A outer s H vs Q E hr h => ?_)
  · obtain ⟨el, p, qq, ys, es, rfl, _⟩ := h
    rfl
  · obtain ⟨el, p, qq, ys, es, rfl, hel, hed, hn, hp0, hq0, hq1, hgo, q1, q2⟩ := h
    refine ⟨_, PSs.nox (pss_cons (ps_asg (pe_tup (pa_cons (pe_op op_rep (pe_lst (pa_cons pe_int pa_nil)) (pe_callB (kLen K rfl) (by rfl) (f_len T) (by decide +kernel) (pa_cons (pv 0) pa_nil))) (pa_cons (pe_op op_rep (pe_lst (pa_cons pe_non pa_nil)) (pe_callB (kLen K rfl) (by rfl) (f_len T) (by decide +kernel) (pa_cons (pv 0) pa_nil))) pa_nil))) (pg_tup rfl (pgs_cons (pg_name (i := 3) scWorthsOrRing.nd rfl (.inl rfl)) (pgs_cons (pg_name (i := 4) scWorthsOrRing.nd rfl (.inr rfl)) pgs_nil))))
       (pss_cons (ps_while PassesOwn.never (pt_val (pe_c (oImproved T) hr (by decide) (by rfl) (pa_cons (pv 0) (pa_cons (pv 1) (pa_cons (pv 2) (pa_cons (pv 3) (pa_cons (pv 4) pa_nil)))))))
       (pss_cons (ps_set (i := 5) scWorthsOrRing.nd rfl (.inl rfl) (pe_c (oRingIn T) hr (by decide) (by rfl) (pa_cons (pv 4) pa_nil)))
       (pss_one (ps_if (pt_cmpR op_notN (pv 5) pe_non (nomark _))
       (pss_one (ps_ret (pe_tup (pa_cons pe_non (pa_cons (pv 5) (pa_cons (pe_lc (own := [("place", 6)]) (g := gName 6) rfl scWorthsOrRing.nd (kPiL K rfl (pv 5)) (blkOk_by (own := [("place", 6)]) (N := NWorthsOrRing) (sc := defScope sWorthsOrRing) (by decide +kernel)) (fun _ _ _ _ _ => (pg_name (i := 6) scWorthsOrRing.nd rfl (.inl rfl))) (fun _ _ _ _ _ => pts_nil) (fun _ _ _ _ _ => (pe_ix (kIxL K rfl) (pv 4) (pv 6) (fun _ _ => rfl)))) pa_nil))))))
       pss_nil))))
       (pss_one (ps_ret (pe_tup (pa_cons (pe_callTy (kTup K rfl) (by rfl) (f_tuple T) (by decide +kernel) (pa_cons (pv 3) pa_nil)) (pa_cons pe_non (pa_cons pe_non pa_nil)))))))), ?_⟩
    have hsz : sizeLine = 16777216 := sizeLine_eq
    have hyl : ys.length = es.length := Paired.length hed
    have rep1 : ∀ (v : V) (n : Nat), (List.replicate n [v]).flatten = List.replicate n v := fun v n => by
      induction n with
      | zero => rfl
      | succ n ih => rw [List.replicate_succ, List.flatten_cons, ih]; rfl
    refine ⟨by show 1 ≤ sizeLine; omega, fun l0 n0 => ?_⟩
    have s1 := same_upd (o := .lst [.int 0]) n0
    have hl0 : (upd H l0 (.lst [.int 0])) l0 = some (.lst [.int 0]) := upd_same
    generalize (upd H l0 (.lst [.int 0])) = H1 at s1 hl0 ⊢
    refine ⟨_, rfl, el, _, rfl, .inl (.inl (.inl (s1 _ _ hel))), l0, _, _, rfl, rfl, hl0, by omega, by omega, by show 1 * _ ≤ _; omega, fun wl nw => ?_⟩
    rw [rep1, show ((ys.length : Nat) : Int).toNat = es.length by omega]
    have s2 : Same H1 (upd H1 wl (.lst (List.replicate es.length (.int 0)))) := same_upd nw
    have hw2 : (upd H1 wl (.lst (List.replicate es.length (V.int 0)))) wl = some (.lst (List.replicate es.length (.int 0))) := upd_same
    have s02 := s1.trans s2
    have nwH : H wl = none := by
      cases e : H wl with
      | none => rfl
      | some u => rw [s1 _ _ e] at nw; cases nw
    generalize (upd H1 wl (.lst (List.replicate es.length (V.int 0)))) = H2 at s2 s02 hw2 ⊢
    refine ⟨by show 1 ≤ sizeLine; omega, fun l1 n1 => ?_⟩
    have s3 := same_upd (o := .lst [.non]) n1
    have hl1 : (upd H2 l1 (.lst [.non])) l1 = some (.lst [.non]) := upd_same
    have s03 := s02.trans s3
    generalize (upd H2 l1 (.lst [.non])) = H3 at s3 s03 hl1 ⊢
    refine ⟨_, rfl, el, _, rfl, .inl (.inl (.inl (s03 _ _ hel))), l1, _, _, rfl, rfl, hl1, by omega, by omega, by show 1 * _ ≤ _; omega, fun cl nc => ?_⟩
    rw [rep1, show ((ys.length : Nat) : Int).toNat = es.length by omega]
    have s4 : Same H3 (upd H3 cl (.lst (List.replicate es.length .non))) := same_upd nc
    have hc4 : (upd H3 cl (.lst (List.replicate es.length V.non))) cl = some (.lst (List.replicate es.length .non)) := upd_same
    have s04 := s03.trans s4
    have hw4 := s4 _ _ (s3 _ _ hw2)
    have ncH : H cl = none := by
      cases e : H cl with
      | none => rfl
      | some u => rw [s03 _ _ e] at nc; cases nc
    have hne : wl ≠ cl := ne_of_none (s3 _ _ hw2) nc
    generalize (upd H3 cl (.lst (List.replicate es.length V.non))) = H4 at s4 s04 hw4 hc4 ⊢
    refine ⟨by show 2 ≤ sizeLine; omega, fun T0 nT => ?_⟩
    have s5 := same_upd (o := .tup [.ref wl, .ref cl]) nT
    have hT : (upd H4 T0 (.tup [.ref wl, .ref cl])) T0 = some (.tup [.ref wl, .ref cl]) := upd_same
    have s05 := s04.trans s5
    have hw5 := s5 _ _ hw4
    have hc5 := s5 _ _ hc4
    generalize (upd H4 T0 (.tup [.ref wl, .ref cl])) = H5 at s5 s05 hT hw5 hc5 ⊢
    refine ⟨T0, _, rfl, .inl (.inl hT), rfl, _, _, rfl, _, _, rfl, rfl, ?_⟩
    have hWr : gW (List.replicate es.length (0 : Int)) = fun _ => 0 := by
      funext i
      show (List.replicate es.length (0 : Int)).getD i 0 = 0
      rw [List.getD_eq_getElem?_getD, List.getElem?_replicate]
      split <;> rfl
    have hCr : gC (List.replicate es.length (none : Option Edge)) = fun _ => none := by
      funext i
      show (List.replicate es.length (none : Option Edge)).getD i none = none
      rw [List.getD_eq_getElem?_getD, List.getElem?_replicate]
      split <;> rfl
    have hPr : ∀ n, Paired (ChT H5) (List.replicate n V.non) (List.replicate n (none : Option Edge)) := fun n => by
      induction n with
      | zero => exact .nil
      | succ n ih => exact .cons rfl ih
    have hSr : ∀ n, (List.replicate n (0 : Int)).sum = 0 := fun n => by
      induction n with
      | zero => rfl
      | succ n ih => rw [List.replicate_succ, List.sum_cons, ih]; rfl
    refine ⟨fun m σ H6 => ∃ ws chs x5 x6, m = ((es.length : Int) * (qq * (es.length : Int)) + 1 - ws.sum).toNat ∧ σ = [some (.ref el), some (.int p), some (.int qq), some (.ref wl), some (.ref cl), x5, x6] ∧ ImpIn H H6 el wl cl es ws chs ∧ FInv p qq (EIn es) (gW ws) (gC chs) ∧ ws.sum ≤ (es.length : Int) * (qq * (es.length : Int)),
      ⟨_, List.replicate es.length 0, List.replicate es.length none, _, _, rfl, rfl, ⟨⟨ys, hel, hed⟩, nwH, ncH, hne, s05, by rw [hw5, List.map_replicate], ⟨_, hc5, hPr _⟩, List.length_replicate .., List.length_replicate ..⟩, by rw [hWr, hCr]; exact FInv.start, by rw [hSr]; exact Int.mul_nonneg (by omega) (Int.mul_nonneg hq0 (by omega))⟩, ?_⟩
    rintro m σ H6 ⟨ws, chs, x5, x6, rfl, rfl, I6, F6, hsum⟩
    refine ⟨_, rfl, _, rfl, _, rfl, _, rfl, _, rfl, H, el, wl, cl, p, qq, es, ws, chs, rfl, I6, hn, hq0, hq1, fun l hl e he => (hgo l hl e he).1, F6, fun H7 b ws7 chs7 I7 k7 F7 ht hf => ?_⟩
    cases b with
    | false =>
      refine ⟨false, rfl, iteF ?_⟩
      refine ⟨_, rfl, wl, _, rfl, .inl ⟨.inl (.inl I7.hw), fun tt ntt => ?_⟩⟩
      have t1 := same_upd (o := .tup (ws7.map V.int)) ntt
      refine ⟨by show 3 ≤ sizeLine; omega, fun T nT2 => ?_⟩
      have t2 := same_upd (o := .tup [.ref tt, .non, .non]) nT2
      refine q1 _ T tt ws7 (I7.same.trans (t1.trans t2)) upd_same (t2 _ _ upd_same) I7.lw (fun x hx => ?_) (hf rfl)
      obtain ⟨i, hi, rfl⟩ := List.mem_iff_getElem.mp hx
      have h9 := F7.pos i
      have h10 : gW ws7 i = ws7[i] := by
        show ws7.getD i 0 = _
        rw [List.getD_eq_getElem?_getD, List.getElem?_eq_getElem hi]
        rfl
      rw [← h10]
      exact h9
    | true =>
      refine ⟨true, rfl, iteT ?_⟩
      have hE : ∀ i e, EIn es i e → e.ch ≤ 1 := fun i e ⟨l, hl, he⟩ => (hgo l (List.mem_of_getElem? hl) e he).2
      have hgoC : ∀ i e, gC chs7 i = some e → e.go < chs7.length := fun i e h => by
        obtain ⟨l, hl, he⟩ := F7.edge i e h
        rw [I7.lc]
        exact (hgo l (List.mem_of_getElem? hl) e he).1
      obtain ⟨cs7, hc7, hpc7⟩ := I7.hc
      have lc7 := I7.lc
      have lw7 := I7.lw
      refine ⟨fun σ' H' => ∃ x5 x6, σ' = [some (.ref el), some (.int p), some (.int qq), some (.ref wl), some (.ref cl), x5, x6] ∧ ImpIn H H' el wl cl es ws7 chs7 ∧ ws7.sum ≤ (es.length : Int) * (qq * (es.length : Int)), fun σ' H' ⟨y5, y6, e1, I8, h8⟩ => ⟨_, ?_, ws7, chs7, y5, y6, rfl, e1, I8, F7, h8⟩, ?_⟩
      · have := ht rfl
        omega
      refine ⟨_, rfl, cl, cs7, chs7, rfl, hc7, hpc7, by omega, hgoC, fun H8 s8 hg => ?_, fun H8 r ring s8 hr8 hring => ?_⟩
      · refine ⟨_, rfl, rfl, _, rfl, iteND rfl ?_⟩
        refine ⟨_, _, rfl, ⟨I7.ed, I7.nw, I7.nc, I7.ne, I7.same.trans s8, s8 _ _ I7.hw, ⟨cs7, s8 _ _ hc7, Paired.mapP hpc7 fun _ _ z => z.im (Imm.of_same s8)⟩, lw7, lc7⟩, ?_⟩
        rw [← lw7]
        refine sum_le_mul fun i hi => ?_
        obtain ⟨j, sm, k, w1, w2, w3⟩ := hg p qq i (by omega)
        have h9 := w1.bound hp0 hq0 hE F7 w2
        have h10 : qq * (k : Int) ≤ qq * (ws7.length : Int) := Int.mul_le_mul_of_nonneg_left (by omega) hq0
        exact Int.le_trans h9 h10
      · have hr8' : H8 r = some (.lst (ring.map fun n : Nat => V.int (n : Int))) := hr8
        have hrl : ring.length ≤ 2000 := by
          have := nodup_bound hring.nd hring.lt
          omega
        obtain ⟨taken, htk, hgain⟩ := hring.gain F7
        have hc8 := s8 _ _ hc7
        refine ⟨_, rfl, rfl, _, rfl, iteNDn (fun z => by cases z) ?_⟩
        refine ⟨_, rfl, _, rfl, r, rfl, ⟨_, .inl (.inl hr8)⟩, fun D hD => lc_map (walk_list (xs := natV ring)) noA (fun i us H2 => Paired (EdgeT H2) us (taken.take i)) hD id (by unfold natV; rw [List.length_map]; omega) (fun i us H2 _ k _ => .inl (.inl (k.toSame _ _ hr8))) .nil ?_ ?_⟩
        · rintro i x Ha Hb us hi ka hpa ⟨e32, hy⟩ hDa k
          have e23 := e32.symm
          subst e23
          obtain ⟨n, hn1, rfl⟩ : ∃ n, ring[i]? = some n ∧ x = .int ((n : Nat) : Int) := by
            unfold natV at hy
            rw [List.getElem?_map] at hy
            cases e : ring[i]? with
            | none => rw [e] at hy; cases hy
            | some n => rw [e] at hy; exact ⟨n, rfl, (Option.some.inj hy).symm⟩
          obtain ⟨e, he, hCe⟩ := Paired.getL htk hn1
          have hnl := hring.lt n (List.mem_of_getElem? hn1)
          obtain ⟨ce, hce⟩ : ∃ c, chs7[n]? = some c := ⟨_, List.getElem?_eq_getElem hnl⟩
          have hce2 : ce = some e := by
            rw [← hCe]
            show ce = chs7.getD n none
            rw [List.getD_eq_getElem?_getD, hce]
            rfl
          subst hce2
          obtain ⟨vc, hvc, ae, rfl, hae⟩ := Paired.get hpc7 hce
          have kD := Kp.wr (A := fun x => x = D) (o := .lst (us ++ [.ref ae])) rfl hDa (fun z => z)
          refine ⟨rfl, _, rfl, _, rfl, cl, _, _, .ref ae, rfl, rfl, .inl (.inl (ka.toSame _ _ (s8 _ _ hc7))), atI_nat hvc, k Ha _ Kp.refl ?_⟩
          rw [List.take_add_one, he]
          exact Paired.snoc ⟨ae, rfl, kD.im.tup (ka.toSame _ _ (s8 _ _ hae))⟩ (Paired.mapP hpa fun _ _ z => z.im kD.im)
        · rintro H9 us k9 hD9 hp9
          have tl9 : taken.length = ring.length := (Paired.length htk).symm
          rw [List.take_of_length_le (by unfold natV; rw [List.length_map]; omega)] at hp9
          refine ⟨by show 3 ≤ sizeLine; omega, fun T nT3 => ?_⟩
          have t3 := same_upd (o := .tup [.non, .ref r, .ref D]) nT3
          exact q2 _ T r D ring taken us (gC chs7) ((I7.same.trans s8).trans (k9.toSame.trans t3)) upd_same (t3 _ _ (k9.toSame _ _ hr8)) (t3 _ _ hD9) (Paired.mapP hp9 fun _ _ z => z.im (Imm.of_same t3)) (by rw [← lc7]; exact hring) htk (Paired.mapP htk fun i e z => F7.edge i e z) hgain
end
end Mw


set_option Elab.async false
set_option linter.all false
set_option maxRecDepth 100000
set_option maxHeartbeats 4000000
set_option pp.maxSteps 600
set_option pp.deepTerms false
namespace Mw
open PySem PySem.Spec PyProof.Rows L2
open C8 (Cal pe_c Mak pe_mk)
section
variable {P : Program} {w : World} {K : PySem.W.Frag} {mg : Str → Option Value} {base : Heap}
/-! ### lowest -/
abbrev NLowest : List Str := ["top", "bottom", "one", "other"]
theorem scLowest : FnScope NLowest ["top", "bottom"] (defScope sLowest) := ⟨rfl, rfl, rfl, by decide +kernel, rfl, by decide +kernel, by decide +kernel⟩
def spLowest (P : Program) (w : World) (K : PySem.W.Frag) : Sp := fun vs H Q _ => ∃ t b : Nat, vs = [.int (t : Int), .int (b : Int)] ∧ 1 ≤ b ∧ b ≤ 2000 ∧ ∀ H' T, Same H H' → H' T = some (.tup [.int ((t / Nat.gcd t b : Nat) : Int), .int ((b / Nat.gcd t b : Nat) : Int)]) → Q (.ref T) H'
theorem oLowest (T : Txt K mg) : Cal P w K mg base 1 "lowest" (spLowest P w K) [] := by
  refine calD (dLowest_fn T) (gLowest T) scLowest (fun vs H Q E h => ?_) (fun _ _ _ _ _ _ us hl => match us, hl with | [_, _], _ => rfl) (fun cdv A outer s H vs Q E hr h => ?_)
  · obtain ⟨t, b, rfl, _⟩ := h
    rfl
  · obtain ⟨t, b, rfl, hb, hb2, q⟩ := h
    refine ⟨_, PSs.nox (pss_cons (ps_par (i := 2) (j := 3) (by rfl) scLowest.nd rfl rfl (by decide) rfl rfl (pa_cons (pv 0) (pa_cons (pv 1) pa_nil)) (by rfl))
       (pss_cons (ps_while PassesOwn.never (pt_cmpR op_gt (pv 3) pe_int (nomark _))
       (pss_one (ps_par (i := 2) (j := 3) (by rfl) scLowest.nd rfl rfl (by decide) rfl rfl (pa_cons (pv 3) (pa_cons (pe_op op_modN (pv 2) (pv 3)) pa_nil)) (by rfl))))
       (pss_one (ps_ret (pe_tup (pa_cons (pe_op op_fdivN (pv 0) (pv 2)) (pa_cons (pe_op op_fdivN (pv 1) (pv 2)) pa_nil))))))), ?_⟩
    refine ⟨_, rfl, _, rfl, _, _, rfl, ?_⟩
    refine ⟨fun m σ H2 => ∃ x y : Nat, m = y ∧ σ = [some (.int (t : Int)), some (.int (b : Int)), some (.int (x : Int)), some (.int (y : Int))] ∧ H2 = H ∧ 1 ≤ Nat.gcd x y ∧ Nat.gcd x y = Nat.gcd t b, ⟨_, t, b, rfl, rfl, rfl, Nat.gcd_pos_of_pos_right _ hb, rfl⟩, ?_⟩
    rintro m σ H2 ⟨x, y, rfl, rfl, e, hg, hgt⟩
    refine ⟨_, rfl, _, _, rfl, rfl, _, rfl, ite2 (fun ec => ?_) (fun ec => ?_)⟩
    · have hm : 0 < m := by have := of_decide_eq_true ec; omega
      refine ⟨fun σ' H' => σ' = [some (.int (t : Int)), some (.int (b : Int)), some (.int (m : Int)), some (.int ((x % m : Nat) : Int))] ∧ H' = H, fun σ' H' ⟨e1, e2⟩ => ⟨x % m, Nat.mod_lt _ hm, m, x % m, rfl, e1, e2, ?_, ?_⟩, ?_⟩
      · exact Nat.gcd_pos_of_pos_left _ hm
      · rw [← hgt, Nat.gcd_comm m, ← Nat.gcd_rec, Nat.gcd_comm]
      · refine ⟨_, rfl, _, rfl, _, rfl, _, _, rfl, rfl, by omega, _, _, rfl, ?_⟩
        refine ⟨?_, e⟩
        have e9 : ((x : Int).fmod (m : Int)) = ((x % m : Nat) : Int) := by
          rw [Int.fmod_eq_emod_of_nonneg _ (by omega)]
          rfl
        show [some (V.int (t : Int)), some (V.int (b : Int)), some (V.int (m : Int)), some (V.int ((x : Int).fmod (m : Int)))] = _
        rw [e9]
    · have hm : m = 0 := by
        have h1 : ¬ ((m : Int) > 0) := fun z => ec (decide_eq_true z)
        omega
      subst hm
      rw [Nat.gcd_zero_right] at hg hgt
      subst hgt
      have hxb : Nat.gcd t b ≤ b := Nat.gcd_le_right _ hb
      have fd : ∀ n : Nat, (n : Int).fdiv (Nat.gcd t b : Nat) = ((n / Nat.gcd t b : Nat) : Int) := fun n => by
        rw [Int.fdiv_eq_ediv_of_nonneg _ (by omega)]
        rfl
      have cd : ∀ n : Nat, CDivN (n : Int) (Nat.gcd t b : Nat) := fun n => ⟨by omega, by omega⟩
      subst e
      refine ⟨_, rfl, _, rfl, _, _, rfl, rfl, cd t, _, rfl, _, rfl, _, _, rfl, rfl, cd b, by show 2 ≤ sizeLine; rw [sizeLine_eq]; omega, fun T nT => ?_⟩
      refine q _ T (same_upd nT) ?_
      rw [upd_same]
      show some (HO.tup [V.int ((t : Int).fdiv (Nat.gcd t b : Nat)), V.int ((b : Int).fdiv (Nat.gcd t b : Nat))]) = _
      rw [fd, fd]
end
end Mw


set_option Elab.async false
set_option linter.all false
set_option maxRecDepth 100000
set_option maxHeartbeats 4000000
namespace Mw
/-! ### changes along a stream -/
def ansR (rows : List MRow) (r : Nat) : Ans := (rows.getD r (none, [])).1
def chgP (rows : List MRow) : Nat → List Nat → Nat
  | _, [] => 0
  | r, c :: t => (if ansR rows (rowGo rows r c) = ansR rows r then 0 else 1) + chgP rows (rowGo rows r c) t
theorem chgP_app {rows : List MRow} : ∀ {t u : List Nat} {r : Nat}, chgP rows r (t ++ u) = chgP rows r t + chgP rows (rowPath rows r t) u
  | [], u, r => (Nat.zero_add _).symm
  | c :: t, u, r => by
    show _ + chgP rows (rowGo rows r c) (t ++ u) = _ + chgP rows (rowGo rows r c) t + chgP rows (rowPath rows (rowGo rows r c) t) u
    rw [chgP_app (t := t), Nat.add_assoc]
/-- rows of a machine -/
structure RowsOk (rows : List MRow) : Prop where
  len : ∀ r ∈ rows, r.2.length = 26
  lt : ∀ r ∈ rows, ∀ g ∈ r.2, g < rows.length
theorem RowsOk.go {rows : List MRow} (ok : RowsOk rows) {r c : Nat} (hr : r < rows.length) (hc : c ∈ alphaL) : rowGo rows r c < rows.length ∧ ∃ d, (rowGo rows r c, d) ∈ goalsF (rows.getD r (none, [])).2 := by
  obtain ⟨a1, a2, a3⟩ := alpha_mem hc
  have hg : rows.getD r (none, []) = rows[r] := by rw [List.getD_eq_getElem?_getD, List.getElem?_eq_getElem hr]; rfl
  have hm : rows[r] ∈ rows := List.getElem_mem hr
  have hl := ok.len _ hm
  have hx : (rows.getD r (none, [])).2[c - 97]? = some (rowGo rows r c) := by
    unfold rowGo
    rw [List.getD_eq_getElem?_getD (l := (rows.getD _ _).2), List.getElem?_eq_getElem (by rw [hg, hl]; exact a2)]
    rfl
  refine ⟨ok.lt _ hm _ (by rw [← hg]; exact List.mem_of_getElem? hx), ?_⟩
  exact goalsF_all (by rw [hg, hl]; exact Nat.le_refl _) hx
theorem RowsOk.path {rows : List MRow} (ok : RowsOk rows) : ∀ {t : List Nat} {r : Nat}, r < rows.length → (∀ c ∈ t, c ∈ alphaL) → rowPath rows r t < rows.length
  | [], r, h, _ => h
  | c :: t, r, h, hc => RowsOk.path ok (t := t) (ok.go h (hc c (List.mem_cons_self ..))).1 fun d hd => hc d (List.mem_cons_of_mem _ hd)
/-- worths that show p / q -/
def WOk (rows : List MRow) (p q : Int) (ws : List Int) : Prop := ∀ i e, EIn (edgesM rows) i e → cost p q e + gW ws e.go ≤ gW ws i
theorem edge_in {rows : List MRow} {r g d : Nat} (hr : r < rows.length) (h : (g, d) ∈ goalsF (rows.getD r (none, [])).2) : EIn (edgesM rows) r ⟨if ansR rows g = ansR rows r then 0 else 1, g, d⟩ := by
  have he := List.getElem?_eq_getElem hr
  have hg : rows.getD r (none, []) = rows[r] := by rw [List.getD_eq_getElem?_getD, he]; rfl
  refine ⟨edgesR rows rows[r], by unfold edgesM; rw [List.getElem?_map, he]; rfl, ?_⟩
  unfold edgesR
  refine List.mem_map.mpr ⟨(g, d), by rw [← hg]; exact h, ?_⟩
  unfold edgeR ansR
  rw [hg]
/-- an edge is one of a row's targets -/
theorem in_edge {rows : List MRow} {r : Nat} {e : Edge} (h : EIn (edgesM rows) r e) : r < rows.length ∧ (e.go, e.lt) ∈ goalsF (rows.getD r (none, [])).2 ∧ e.ch = if ansR rows e.go = ansR rows r then 0 else 1 := by
  obtain ⟨l, h1, h2⟩ := h
  unfold edgesM at h1
  rw [List.getElem?_map] at h1
  obtain ⟨x, hx, rfl⟩ := Option.map_eq_some_iff.mp h1
  have hg : rows.getD r (none, []) = x := by rw [List.getD_eq_getElem?_getD, hx]; rfl
  obtain ⟨q, hq, rfl⟩ := List.mem_map.mp h2
  refine ⟨(List.getElem?_eq_some_iff.mp hx).1, by rw [hg]; exact hq, ?_⟩
  show (if (rows.getD q.1 (none, [])).1 = x.1 then 0 else 1) = _
  unfold ansR
  rw [hg]
  rfl
theorem edge_go {rows : List MRow} {r : Nat} {e : Edge} (h : EIn (edgesM rows) r e) : e.lt ∈ alphaL ∧ rowGo rows r e.lt = e.go := by
  obtain ⟨h1, h2, h3⟩ := in_edge h
  obtain ⟨i, i1, i2⟩ := goalsF_mem h2
  obtain ⟨i3, i4⟩ := alpha_at i2
  have i3' : e.lt = 97 + i := i3
  refine ⟨List.mem_of_getElem? i2, ?_⟩
  unfold rowGo
  rw [i3', show 97 + i - 97 = i by omega, List.getD_eq_getElem?_getD, i1]
  rfl
theorem tele {rows : List MRow} (ok : RowsOk rows) {p q : Int} {ws : List Int} (hw : WOk rows p q ws) : ∀ {t : List Nat} {r : Nat}, r < rows.length → (∀ c ∈ t, c ∈ alphaL) → q * (chgP rows r t : Int) - p * (t.length : Int) ≤ gW ws r - gW ws (rowPath rows r t)
  | [], r, h, _ => by
    show q * ((0 : Nat) : Int) - p * ((0 : Nat) : Int) ≤ gW ws r - gW ws r
    simp
  | c :: t, r, h, hc => by
    obtain ⟨h1, d, hd⟩ := ok.go h (hc c (List.mem_cons_self ..))
    have ih := tele ok hw (t := t) h1 fun d hd => hc d (List.mem_cons_of_mem _ hd)
    have he := hw _ _ (edge_in h hd)
    show q * (((if ansR rows (rowGo rows r c) = ansR rows r then 0 else 1) + chgP rows (rowGo rows r c) t : Nat) : Int) - p * ((c :: t).length : Int) ≤ gW ws r - gW ws (rowPath rows (rowGo rows r c) t)
    unfold cost at he
    change q * (((if ansR rows (rowGo rows r c) = ansR rows r then 0 else 1 : Nat)) : Int) - p + gW ws (rowGo rows r c) ≤ gW ws r at he
    generalize (if ansR rows (rowGo rows r c) = ansR rows r then 0 else 1 : Nat) = x at he ⊢
    rw [List.length_cons, show ((x + chgP rows (rowGo rows r c) t : Nat) : Int) = (x : Int) + (chgP rows (rowGo rows r c) t : Int) by omega, Int.mul_add, show ((t.length + 1 : Nat) : Int) = (t.length : Int) + 1 by omega, Int.mul_add, Int.mul_one]
    omega
/-! ### what is told letter by letter -/
def toldM (L : Lis) : Sta → List Nat → List Ans
  | s, [] => [heardM L s.row]
  | s, c :: t => heardM L s.row :: toldM L (stepM L.p L.es s c) t
def rowsP (rows : List MRow) : Nat → List Nat → List Nat
  | r, [] => [r]
  | r, c :: t => r :: rowsP rows (rowGo rows r c) t
def chg : List Ans → Nat
  | a :: b :: l => (if b = a then 0 else 1) + chg (b :: l)
  | _ => 0
theorem toldM_snoc {L : Lis} {c : Nat} : ∀ {t : List Nat} {s : Sta}, toldM L s (t ++ [c]) = toldM L s t ++ [heardM L (runM L.p L.es s (t ++ [c])).row]
  | [], s => rfl
  | d :: t, s => by
    show heardM L s.row :: toldM L (stepM L.p L.es s d) (t ++ [c]) = _
    rw [toldM_snoc (t := t)]
    rfl
theorem rowsP_snoc {rows : List MRow} {c : Nat} : ∀ {t : List Nat} {r : Nat}, rowsP rows r (t ++ [c]) = rowsP rows r t ++ [rowPath rows r (t ++ [c])]
  | [], r => rfl
  | d :: t, r => by
    show r :: rowsP rows (rowGo rows r d) (t ++ [c]) = _
    rw [rowsP_snoc (t := t)]
    rfl
theorem toldM_len {L : Lis} : ∀ {t : List Nat} {s : Sta}, (toldM L s t).length = t.length + 1
  | [], s => rfl
  | c :: t, s => by
    show (toldM L (stepM L.p L.es s c) t).length + 1 = _
    rw [toldM_len (t := t), List.length_cons]
theorem rowsP_len {rows : List MRow} : ∀ {t : List Nat} {r : Nat}, (rowsP rows r t).length = t.length + 1
  | [], s => rfl
  | c :: t, r => by
    show (rowsP rows (rowGo rows r c) t).length + 1 = _
    rw [rowsP_len (t := t), List.length_cons]
theorem rowsP_head {rows : List MRow} : ∀ {t : List Nat} {r : Nat}, (rowsP rows r t).getD 0 0 = r
  | [], r => rfl
  | c :: t, r => rfl
theorem rowsP_last {rows : List MRow} : ∀ {t : List Nat} {r : Nat}, (rowsP rows r t).getLastD 0 = rowPath rows r t
  | [], r => rfl
  | c :: t, r => by
    have ih := rowsP_last (rows := rows) (t := t) (r := rowGo rows r c)
    show (r :: rowsP rows (rowGo rows r c) t).getLastD 0 = rowPath rows (rowGo rows r c) t
    rw [← ih]
    have : ∀ (l : List Nat), l ≠ [] → (r :: l).getLastD 0 = l.getLastD 0 := fun l hl => by
      cases l with
      | nil => exact absurd rfl hl
      | cons a l => rfl
    refine this _ fun z => ?_
    have := rowsP_len (rows := rows) (t := t) (r := rowGo rows r c)
    rw [z] at this
    simp at this
theorem rowsP_mem {rows : List MRow} (ok : RowsOk rows) : ∀ {t : List Nat} {r : Nat}, r < rows.length → (∀ c ∈ t, c ∈ alphaL) → ∀ x ∈ rowsP rows r t, x < rows.length
  | [], r, h, _, x, hx => by
    have hx2 : x ∈ [r] := hx
    rw [List.mem_singleton.mp hx2]; exact h
  | c :: t, r, h, hc, x, hx => by
    have hx2 : x ∈ r :: rowsP rows (rowGo rows r c) t := hx
    rcases List.mem_cons.mp hx2 with rfl | z
    · exact h
    · exact rowsP_mem ok (t := t) (ok.go h (hc c (List.mem_cons_self ..))).1 (fun d hd => hc d (List.mem_cons_of_mem _ hd)) x z
theorem toldM_last {L : Lis} : ∀ {t : List Nat} {s : Sta}, (toldM L s t).getLastD none = heardM L (runM L.p L.es s t).row
  | [], s => rfl
  | c :: t, s => by
    have ih := toldM_last (L := L) (t := t) (s := stepM L.p L.es s c)
    show (heardM L s.row :: toldM L (stepM L.p L.es s c) t).getLastD none = heardM L (runM L.p L.es (stepM L.p L.es s c) t).row
    rw [← ih]
    have : ∀ (a : Ans) (l : List Ans), l ≠ [] → (a :: l).getLastD none = l.getLastD none := fun a l hl => by
      cases l with
      | nil => exact absurd rfl hl
      | cons b l => rfl
    refine this _ _ fun z => ?_
    have := toldM_len (L := L) (t := t) (s := stepM L.p L.es s c)
    rw [z] at this
    simp at this
theorem toldM_drop {L : Lis} : ∀ {t u : List Nat} {s : Sta}, (toldM L s (t ++ u)).drop t.length = toldM L (runM L.p L.es s t) u
  | [], u, s => rfl
  | c :: t, u, s => toldM_drop (t := t) (u := u) (s := stepM L.p L.es s c)
theorem Sim.rowsOk {L : Lis} {rows : List MRow} {fs : List Sta} {grp : Sta → Nat} (S : Sim L rows fs grp) : RowsOk rows where
  len := fun r hr => by
    obtain ⟨i, hi⟩ := List.mem_iff_getElem?.mp hr
    obtain ⟨s, hs, rfl⟩ := S.all i (List.getElem?_eq_some_iff.mp hi).1
    have := S.row s hs
    rw [hi] at this
    cases (Option.some.inj this)
    rw [List.length_map]
    decide
  lt := fun r hr g hg => by
    obtain ⟨i, hi⟩ := List.mem_iff_getElem?.mp hr
    obtain ⟨s, hs, rfl⟩ := S.all i (List.getElem?_eq_some_iff.mp hi).1
    have := S.row s hs
    rw [hi] at this
    cases (Option.some.inj this)
    obtain ⟨c, hc, rfl⟩ := List.mem_map.mp hg
    exact (List.getElem?_eq_some_iff.mp (S.row _ (S.step s hs c hc))).1
theorem Sim.ans {L : Lis} {rows : List MRow} {fs : List Sta} {grp : Sta → Nat} (S : Sim L rows fs grp) {s : Sta} (hs : s ∈ fs) : ansR rows (grp s) = heardM L s.row := by
  unfold ansR
  rw [List.getD_eq_getElem?_getD, S.row s hs]
  rfl
theorem Sim.go {L : Lis} {rows : List MRow} {fs : List Sta} {grp : Sta → Nat} (S : Sim L rows fs grp) {s : Sta} (hs : s ∈ fs) {c : Nat} (hc : c ∈ alphaL) : rowGo rows (grp s) c = grp (stepM L.p L.es s c) := by
  obtain ⟨a1, a2, a3⟩ := alpha_mem hc
  unfold rowGo
  rw [List.getD_eq_getElem?_getD (l := rows), S.row s hs]
  show (alphaL.map fun c => grp (stepM L.p L.es s c)).getD (c - 97) 0 = _
  rw [List.getD_eq_getElem?_getD, List.getElem?_map, a3]
  rfl
theorem Sim.told {L : Lis} {rows : List MRow} {fs : List Sta} {grp : Sta → Nat} (S : Sim L rows fs grp) : ∀ {t : List Nat} {s : Sta}, s ∈ fs → (∀ c ∈ t, c ∈ alphaL) → toldM L s t = (rowsP rows (grp s) t).map (ansR rows) ∧ chg (toldM L s t) = chgP rows (grp s) t ∧ runM L.p L.es s t ∈ fs ∧ grp (runM L.p L.es s t) = rowPath rows (grp s) t
  | [], s, hs, _ => ⟨by show [heardM L s.row] = [ansR rows (grp s)]; rw [S.ans hs], rfl, hs, rfl⟩
  | c :: t, s, hs, hc => by
    have hca := hc c (List.mem_cons_self ..)
    have hs2 := S.step s hs c hca
    obtain ⟨h1, h2, h3, h4⟩ := Sim.told S (t := t) hs2 fun d hd => hc d (List.mem_cons_of_mem _ hd)
    refine ⟨?_, ?_, h3, ?_⟩
    · show heardM L s.row :: toldM L (stepM L.p L.es s c) t = ansR rows (grp s) :: (rowsP rows (rowGo rows (grp s) c) t).map (ansR rows)
      rw [S.ans hs, S.go hs hca, h1]
    · show chg (heardM L s.row :: toldM L (stepM L.p L.es s c) t) = (if ansR rows (rowGo rows (grp s) c) = ansR rows (grp s) then 0 else 1) + chgP rows (rowGo rows (grp s) c) t
      rw [S.go hs hca, S.ans hs, S.ans hs2, ← h2]
      cases t with
      | nil => rfl
      | cons d t => rfl
    · show grp (runM L.p L.es (stepM L.p L.es s c) t) = rowPath rows (rowGo rows (grp s) c) t
      rw [S.go hs hca, h4]
/-! ### the ring again and again -/
def timesL (t : List Nat) : Nat → List Nat
  | 0 => []
  | n + 1 => timesL t n ++ t
theorem timesL_len (t : List Nat) : ∀ n, (timesL t n).length = n * t.length
  | 0 => by simp [timesL]
  | n + 1 => by
    show (timesL t n ++ t).length = _
    rw [List.length_append, timesL_len t n, Nat.succ_mul]
theorem timesL_mem {t : List Nat} : ∀ {n : Nat} {c : Nat}, c ∈ timesL t n → c ∈ t
  | 0, c, h => by cases h
  | n + 1, c, h => by
    have h2 : c ∈ timesL t n ++ t := h
    rcases List.mem_append.mp h2 with z | z
    · exact timesL_mem z
    · exact z
theorem timesL_add (t : List Nat) (m : Nat) : ∀ n, timesL t (m + n) = timesL t m ++ timesL t n
  | 0 => (List.append_nil _).symm
  | n + 1 => by
    show timesL t (m + n) ++ t = _
    rw [timesL_add t m n, List.append_assoc]
    rfl
theorem ring_path {rows : List MRow} {r : Nat} {t : List Nat} (h : rowPath rows r t = r) : ∀ n, rowPath rows r (timesL t n) = r ∧ chgP rows r (timesL t n) = n * chgP rows r t
  | 0 => ⟨rfl, by simp [timesL, chgP]⟩
  | n + 1 => by
    obtain ⟨h1, h2⟩ := ring_path h n
    show rowPath rows r (timesL t n ++ t) = r ∧ chgP rows r (timesL t n ++ t) = _
    rw [rowPath_app, chgP_app, h1, h, h2, Nat.succ_mul]
    exact ⟨rfl, rfl⟩
/-- what rate tells -/
structure RateOk (rows : List MRow) (p q : Nat) (first ring : List Nat) (ws : List Int) : Prop where
  q1 : 1 ≤ q
  wl : ws.length = rows.length
  w : WOk rows (p : Int) (q : Int) ws
  fa : ∀ c ∈ first, c ∈ alphaL
  ra : ∀ c ∈ ring, c ∈ alphaL
  fl : first.length ≤ 2000
  rl : ring.length ≤ 2000
  ring : (p = 0 ∧ first = [] ∧ ring = [97]) ∨ (rowPath rows (rowPath rows 0 first) ring = rowPath rows 0 first ∧ q * chgP rows (rowPath rows 0 first) ring = p * ring.length)
theorem chg_same {a : Ans} : ∀ {l : List Ans}, (∀ x ∈ l, x = a) → chg l = 0
  | [], _ => rfl
  | [x], _ => rfl
  | x :: y :: l, h => by
    show (if y = x then 0 else 1) + chg (y :: l) = 0
    rw [if_pos ((h y (List.mem_cons_of_mem _ (List.mem_cons_self ..))).trans (h x (List.mem_cons_self ..)).symm), chg_same fun z hz => h z (List.mem_cons_of_mem _ hz)]
theorem timesL_a : ∀ n, timesL [97] (n + 1) = [97] ++ timesL [97] n
  | 0 => rfl
  | n + 1 => by
    show timesL [97] (n + 1) ++ [97] = [97] ++ (timesL [97] n ++ [97])
    rw [timesL_a n, List.append_assoc]
theorem told_still {L : Lis} {s : Sta} (h : stepM L.p L.es s 97 = s) : ∀ n, ∀ x ∈ toldM L s (timesL [97] n), x = heardM L s.row
  | 0, x, hx => List.mem_singleton.mp hx
  | n + 1, x, hx => by
    rw [timesL_a] at hx
    have hx2 : x ∈ heardM L s.row :: toldM L (stepM L.p L.es s 97) (timesL [97] n) := hx
    rw [h] at hx2
    rcases List.mem_cons.mp hx2 with z | z
    · exact z
    · exact told_still h n x z
theorem RateOk.late {L : Lis} (ok : LisOk L) {rows : List MRow} {fs : List Sta} {grp : Sta → Nat} (S : Sim L rows fs grp) {p q : Nat} {first ring : List Nat} {ws : List Int} (R : RateOk rows p q first ring ws) (k : Nat) :
    q * chg (toldM L (runM L.p L.es (startM L.p L.es) (first ++ timesL ring (reach L.p L.es + 1))) (timesL ring k)) = p * (k * ring.length) := by
  rcases R.ring with ⟨rfl, rfl, rfl⟩ | ⟨h1, h2⟩
  · have e : stepM L.p L.es (runM L.p L.es (startM L.p L.es) ([] ++ timesL [97] (reach L.p L.es + 1))) 97 = runM L.p L.es (startM L.p L.es) ([] ++ timesL [97] (reach L.p L.es + 1)) := by
      rw [List.nil_append]
      have e1 : stepM L.p L.es (runM L.p L.es (startM L.p L.es) (timesL [97] (reach L.p L.es + 1))) 97 = runM L.p L.es (startM L.p L.es) (timesL [97] (reach L.p L.es + 1 + 1)) := by
        show _ = runM L.p L.es (startM L.p L.es) (timesL [97] (reach L.p L.es + 1) ++ [97])
        rw [runM_app]
        rfl
      rw [e1, timesL_a]
      exact memory ok.p (by rw [timesL_len]; simp)
    rw [chg_same (told_still e k)]
    simp
  · have hf : ∀ c ∈ first ++ timesL ring (reach L.p L.es + 1), c ∈ alphaL := fun c hc => (List.mem_append.mp hc).elim (R.fa c) fun z => R.ra c (timesL_mem z)
    obtain ⟨_, _, i3, i4⟩ := S.told S.start hf
    obtain ⟨_, j2, _, _⟩ := S.told i3 (t := timesL ring k) fun c hc => R.ra c (timesL_mem hc)
    rw [j2, i4, S.g0, rowPath_app, (ring_path h1 _).1, (ring_path h1 k).2]
    have e3 : q * (k * chgP rows (rowPath rows 0 first) ring) = k * (q * chgP rows (rowPath rows 0 first) ring) := by rw [← Nat.mul_assoc, Nat.mul_comm q k, Nat.mul_assoc]
    rw [e3, h2, ← Nat.mul_assoc, Nat.mul_comm k p, Nat.mul_assoc]
end Mw


set_option Elab.async false
set_option linter.all false
set_option maxRecDepth 100000
set_option maxHeartbeats 4000000
set_option pp.maxSteps 600
set_option pp.deepTerms false
namespace Mw
open PySem PySem.Spec PyProof.Rows L2
open C8 (Cal pe_c Mak pe_mk)
/-! ### the rate: plain part -/
theorem reach_all {L : Lis} {rows : List MRow} {M : List Sta} (ok : LisOk L) (m : Closed L.p L.es M) (hM : M.length ≤ 2000) (h : MachR L rows) : ∀ r, r < rows.length → ∃ t : List Nat, (∀ c ∈ t, c ∈ alphaL) ∧ rowPath rows 0 t = r := fun r hr => by
  obtain ⟨grp, S⟩ := mach_sim ok m hM h
  obtain ⟨s, hs, rfl⟩ := S.all r hr
  have hR : Runs L.p L.es s := by
    have hs2 : s ∈ bfsN L.p L.es 2001 := by
      unfold allM at hs
      exact hs
    exact bfs_runs m 2001 s hs2
  obtain ⟨t, h1, h2⟩ := hR
  have hc : ∀ c ∈ t, c ∈ alphaL := fun c hc => tried_sub _ c (h1 c hc)
  have := (S.told S.start hc).2.2.2
  rw [h2, S.g0] at this
  exact ⟨t, hc, this.symm⟩
theorem mach_rows {L : Lis} {rows : List MRow} {M : List Sta} (ok : LisOk L) (m : Closed L.p L.es M) (hM : M.length ≤ 2000) (h : MachR L rows) : rows.length ≤ 2000 ∧ 0 < rows.length ∧ ∀ r ∈ rows, MRowOk rows.length r := by
  obtain ⟨grp, S⟩ := mach_sim ok m hM h
  have fl := (all_closed m hM).2.len
  refine ⟨?_, ?_, fun x hx => ?_⟩
  · have hnd : (List.range rows.length).length ≤ ((allM L.p L.es).map grp).length := nodup_len _ _ List.nodup_range fun r hr => by
      obtain ⟨s, hs, e⟩ := S.all r (List.mem_range.mp hr)
      exact List.mem_map.mpr ⟨s, hs, e⟩
    rw [List.length_range, List.length_map] at hnd
    omega
  · exact Nat.lt_of_le_of_lt (Nat.zero_le _) (List.getElem?_eq_some_iff.mp (S.row _ S.start)).1
  · obtain ⟨r, hr⟩ := List.mem_iff_getElem?.mp hx
    obtain ⟨st, hs, e⟩ := S.all r (List.getElem?_eq_some_iff.mp hr).1
    have h1 := S.row st hs
    rw [e, hr] at h1
    cases (Option.some.inj h1)
    refine ⟨fun y hy => ?_, by rw [List.length_map]; decide, fun gg hgg => ?_⟩
    · obtain ⟨en, hen, rfl⟩ := heard_word hy
      have eo := ok.es.all en hen
      exact ⟨eo.abc, eo.lo, eo.hi⟩
    · obtain ⟨c, hc, rfl⟩ := List.mem_map.mp hgg
      exact (List.getElem?_eq_some_iff.mp (S.row _ (S.step st hs c hc))).1
theorem ring_walk {rows : List MRow} {C : Nat → Option Edge} : ∀ {places : List Nat} {taken : List Edge} {x : Nat}, ChainTo C places x → Paired (fun i e => C i = some e) places taken → Paired (fun i e => EIn (edgesM rows) i e) places taken →
    rowPath rows (places.headD x) (taken.map (·.lt)) = x ∧ chgP rows (places.headD x) (taken.map (·.lt)) = (taken.map (·.ch)).sum ∧ (∀ c ∈ taken.map (·.lt), c ∈ alphaL) ∧ (taken.map (·.ch)).sum ≤ taken.length
  | _, _, x, _, .nil, .nil => ⟨rfl, rfl, fun c hc => (by cases hc), Nat.le_refl _⟩
  | a :: l, e :: es, x, hch, .cons h1 t1, .cons h2 t2 => by
    obtain ⟨⟨f, hf, hg⟩, hch2⟩ := hch
    have hfe : f = e := by rw [h1] at hf; exact (Option.some.inj hf).symm
    subst hfe
    obtain ⟨i1, i2, i3, i4⟩ := ring_walk (rows := rows) hch2 t1 t2
    obtain ⟨h3, h4, h5⟩ := in_edge h2
    obtain ⟨h6, h7⟩ := edge_go h2
    rw [← hg] at i1 i2
    have e1 : f.ch = if ansR rows (rowGo rows a f.lt) = ansR rows a then 0 else 1 := by rw [h7]; exact h5
    refine ⟨?_, ?_, fun c hc => ?_, ?_⟩
    · show rowPath rows (rowGo rows a f.lt) (es.map (·.lt)) = x
      rw [h7]
      exact i1
    · show (if ansR rows (rowGo rows a f.lt) = ansR rows a then 0 else 1) + chgP rows (rowGo rows a f.lt) (es.map (·.lt)) = f.ch + (es.map (·.ch)).sum
      rw [← e1, h7, i2]
    · rcases List.mem_cons.mp hc with rfl | z
      · exact h6
      · exact i3 c z
    · show f.ch + (es.map (·.ch)).sum ≤ es.length + 1
      have : f.ch ≤ 1 := by rw [e1]; split <;> omega
      omega
theorem sum_cast : ∀ l : List Edge, (l.map fun e => ((e.ch : Nat) : Int)).sum = (((l.map (·.ch)).sum : Nat) : Int)
  | [] => rfl
  | e :: l => by rw [List.map_cons, List.map_cons, List.sum_cons, List.sum_cons, sum_cast l]; omega
theorem getD_headD {l : List Nat} : l.getD 0 0 = l.headD 0 := by cases l <;> rfl
theorem cost_pos {p q t b : Nat} (hb : 1 ≤ b) (h : 0 < (q : Int) * (t : Int) - (p : Int) * (b : Int)) : p * (b / Nat.gcd t b) < q * (t / Nat.gcd t b) := by
  have hg : 0 < Nat.gcd t b := Nat.gcd_pos_of_pos_right _ hb
  have h1 : Nat.gcd t b * (t / Nat.gcd t b) = t := Nat.mul_div_cancel' (Nat.gcd_dvd_left t b)
  have h2 : Nat.gcd t b * (b / Nat.gcd t b) = b := Nat.mul_div_cancel' (Nat.gcd_dvd_right t b)
  have h3 : p * b < q * t := by
    have e1 : ((p * b : Nat) : Int) = (p : Int) * (b : Int) := Int.natCast_mul ..
    have e2 : ((q * t : Nat) : Int) = (q : Int) * (t : Int) := Int.natCast_mul ..
    omega
  refine Nat.lt_of_mul_lt_mul_left (a := Nat.gcd t b) ?_
  rw [Nat.mul_left_comm, h2, Nat.mul_left_comm, h1]
  exact h3
theorem cross {t b : Nat} : (b / Nat.gcd t b) * t = (t / Nat.gcd t b) * b := by
  have h1 : Nat.gcd t b * (t / Nat.gcd t b) = t := Nat.mul_div_cancel' (Nat.gcd_dvd_left t b)
  have h2 : Nat.gcd t b * (b / Nat.gcd t b) = b := Nat.mul_div_cancel' (Nat.gcd_dvd_right t b)
  have e1 : (b / Nat.gcd t b) * t = (b / Nat.gcd t b) * (Nat.gcd t b * (t / Nat.gcd t b)) := by rw [h1]
  have e2 : (t / Nat.gcd t b) * b = (t / Nat.gcd t b) * (Nat.gcd t b * (b / Nat.gcd t b)) := by rw [h2]
  rw [e1, e2, Nat.mul_left_comm, Nat.mul_left_comm (t / Nat.gcd t b), Nat.mul_comm (b / Nat.gcd t b)]
theorem mu_lt {p q a b : Nat} (hq : 1 ≤ q) (hq2 : q ≤ 2000) (hb : 1 ≤ b) (hb2 : b ≤ 2000) (hab : a ≤ b) (h : p * b < q * a) : 4000000 - 4000000 * a / b < 4000000 - 4000000 * p / q := by
  have h1 : 4000000 * p / q + 1 ≤ 4000000 * a / b := by
    refine (Nat.le_div_iff_mul_le (by omega)).mpr ?_
    refine Nat.le_of_mul_le_mul_right (c := q) ?_ (by omega)
    have h2 : 4000000 * p / q * q ≤ 4000000 * p := Nat.div_mul_le_self ..
    have h3 : b * q ≤ 2000 * 2000 := Nat.mul_le_mul hb2 hq2
    have h4 : (4000000 * p / q + 1) * b * q = 4000000 * p / q * q * b + b * q := by
      rw [Nat.add_mul, Nat.add_mul, Nat.one_mul, Nat.mul_right_comm]
    have h5 : 4000000 * p / q * q * b ≤ 4000000 * p * b := Nat.mul_le_mul_right _ h2
    have h6 : 4000000 * p * b = 4000000 * (p * b) := Nat.mul_assoc ..
    have h7 : 4000000 * a * q = 4000000 * (q * a) := by rw [Nat.mul_assoc, Nat.mul_comm a q]
    omega
  have h2 : 4000000 * a / b ≤ 4000000 := by
    refine Nat.div_le_of_le_mul ?_
    rw [Nat.mul_comm]
    exact Nat.mul_le_mul_right _ hab
  omega
/-- the ring's side of what rate tells -/
structure RingSide (rows : List MRow) (p q : Nat) (first ring : List Nat) : Prop where
  q1 : 1 ≤ q
  q2 : q ≤ 2000
  pq : p ≤ q
  fa : ∀ c ∈ first, c ∈ alphaL
  ra : ∀ c ∈ ring, c ∈ alphaL
  fl : first.length ≤ 2000
  rl : ring.length ≤ 2000
  ring : (p = 0 ∧ first = [] ∧ ring = [97]) ∨ (rowPath rows (rowPath rows 0 first) ring = rowPath rows 0 first ∧ q * chgP rows (rowPath rows 0 first) ring = p * ring.length)
/-- what worths_or_ring gives -/
def WR (H : Hp) (rows : List MRow) (p q : Nat) (x8 x9 x10 : V) : Prop :=
  (∃ wt ws, x8 = .ref wt ∧ H wt = some (.tup (ws.map V.int)) ∧ ws.length = rows.length ∧ WOk rows (p : Int) (q : Int) ws) ∨
  ∃ pl tl places taken us C, x8 = .non ∧ x9 = .ref pl ∧ x10 = .ref tl ∧ H pl = some (.lst (natV places)) ∧ H tl = some (.lst us) ∧ Paired (EdgeT H) us taken ∧ RingR C rows.length places ∧ Paired (fun i e => C i = some e) places taken ∧ Paired (fun i e => EIn (edgesM rows) i e) places taken ∧ 0 < (taken.map (cost (p : Int) (q : Int))).sum
section
variable {P : Program} {w : World} {K : PySem.W.Frag} {mg : Str → Option Value} {base : Heap}
def WRq (H0 : Hp) (rows : List MRow) (p q : Nat) : V → Hp → Prop := fun v H' => ∃ T x8 x9 x10, v = .ref T ∧ Same H0 H' ∧ H' T = some (.tup [x8, x9, x10]) ∧ WR H' rows p q x8 x9 x10
theorem edgesM_len {rows : List MRow} : (edgesM rows).length = rows.length := by unfold edgesM; rw [List.length_map]
theorem wr0 {rows : List MRow} (ok : RowsOk rows) : ∀ l ∈ edgesM rows, ∀ e ∈ l, e.go < (edgesM rows).length ∧ e.ch ≤ 1 := fun l hl2 e he => by
  obtain ⟨i, hi⟩ := List.mem_iff_getElem?.mp hl2
  obtain ⟨h1, h2, h3⟩ := in_edge (r := i) (e := e) ⟨l, hi, he⟩
  refine ⟨?_, by rw [h3]; split <;> omega⟩
  obtain ⟨j, j1, j2⟩ := goalsF_mem h2
  have hg : rows.getD i (none, []) = rows[i] := by rw [List.getD_eq_getElem?_getD, List.getElem?_eq_getElem h1]; rfl
  rw [edgesM_len]
  exact ok.lt _ (List.getElem_mem h1) _ (by rw [← hg]; exact List.mem_of_getElem? j1)
theorem wr1 {H0 : Hp} {rows : List MRow} {p q : Nat} : ∀ H' T tt ws, Same H0 H' → H' T = some (.tup [.ref tt, .non, .non]) → H' tt = some (.tup (ws.map V.int)) → ws.length = (edgesM rows).length → (∀ x ∈ ws, (0 : Int) ≤ x) → (∀ i e, EIn (edgesM rows) i e → cost (p : Int) (q : Int) e + gW ws e.go ≤ gW ws i) → WRq H0 rows p q (.ref T) H' :=
  fun H' T tt ws s hT htt h1 h2 h3 => ⟨T, _, _, _, rfl, s, hT, .inl ⟨tt, ws, rfl, htt, h1.trans edgesM_len, h3⟩⟩
theorem wr2 {H0 : Hp} {rows : List MRow} {p q : Nat} : ∀ H' T pl tl places taken us C, Same H0 H' → H' T = some (.tup [.non, .ref pl, .ref tl]) → H' pl = some (.lst (natV places)) → H' tl = some (.lst us) → Paired (EdgeT H') us taken → RingR C (edgesM rows).length places → Paired (fun i e => C i = some e) places taken → Paired (fun i e => EIn (edgesM rows) i e) places taken → 0 < (taken.map (cost (p : Int) (q : Int))).sum → WRq H0 rows p q (.ref T) H' :=
  fun H' T pl tl places taken us C s hT hpl htl hus hR h1 h2 h3 => ⟨T, _, _, _, rfl, s, hT, .inr ⟨pl, tl, places, taken, us, C, rfl, rfl, rfl, hpl, htl, hus, by rw [← edgesM_len]; exact hR, h1, h2, h3⟩⟩
/-! ### rate -/
abbrev NRate : List Str := ["listener", "most", "rows", "edges", "p", "q", "stream", "ring", "worths", "places", "taken", "edge"]
theorem scRate : FnScope NRate ["listener", "most"] (defScope sRate) := ⟨rfl, rfl, rfl, by decide +kernel, rfl, by decide +kernel, by decide +kernel⟩
def spRate (P : Program) (w : World) (K : PySem.W.Frag) : Sp := fun vs H Q _ => ∃ (a : Addr) (L : Lis) (M : List Sta), vs = [.ref a, .int 2000] ∧ ListenerAt K H a L ∧ LisOk L ∧ Few L M ∧
  ∀ H' T p q first ring wt ws rows, Same H H' → H' T = some (.tup [.int ((p : Nat) : Int), .int ((q : Nat) : Int), .str (tx first), .str (tx ring), .ref wt]) → H' wt = some (.tup (ws.map V.int)) → MachR L rows → RateOk rows p q first ring ws → Q (.ref T) H'
theorem fnRate (T : Txt K mg) : ∃ fd, FnOk P w K mg base C8.CX0 10 (dRate.adr K) fd ["listener", "most"] (spRate P w K) ∧ (∃ ds, Vals [.int 2000] ds ∧ Binds K fd ["listener", "most"] ds) := by
  obtain ⟨fd, F⟩ := dRate_fn T
  obtain ⟨fds, smF, _, mvs, smKb⟩ := fnSmallest (P := P) (w := w) (base := base) T
  obtain ⟨_, smK⟩ := dSmallest_fn T
  refine ⟨fd, F.ok scRate (fun vs H Q E h => ?_) (fun cdv A outer s H vs Q E hr h => ?_), ?_⟩
  · obtain ⟨a, L, M, rfl, _⟩ := h
    rfl
  · obtain ⟨a, L, M, rfl, hl, ok, few, q⟩ := h
    have hu := hu_of hr
    refine ⟨_, PSs.nox (pss_cons (ps_expr (pe_c (oNeedMost T) hr (by decide) (by rfl) (pa_cons (pv 1) pa_nil)))
       (pss_cons (ps_set (i := 2) scRate.nd rfl (.inl rfl) (pe_pRows T hr (by decide) (pe_callN smF hr (by rfl) (gSmallest T) smK.kp smKb pass0 (pa_cons (pv 0) pa_nil) (pk_cons (pv 1) pk_nil))))
       (pss_cons (ps_asg (pe_tup (pa_cons (pe_c (oEdgesOf T) hr (by decide) (by rfl) (pa_cons (pv 2) pa_nil)) (pa_cons pe_int (pa_cons pe_int (pa_cons pe_str (pa_cons (pe_ix ix_str (pe_glob (by rfl) (c_LETTERS T).choose_spec.1 (c_LETTERS T).choose_spec.2) pe_int (fun _ _ => rfl)) pa_nil)))))) (pg_tup rfl (pgs_cons (pg_name (i := 3) scRate.nd rfl (.inl rfl)) (pgs_cons (pg_name (i := 4) scRate.nd rfl (.inl rfl)) (pgs_cons (pg_name (i := 5) scRate.nd rfl (.inl rfl)) (pgs_cons (pg_name (i := 6) scRate.nd rfl (.inl rfl)) (pgs_cons (pg_name (i := 7) scRate.nd rfl (.inl rfl)) pgs_nil)))))))
       (pss_cons (ps_asg (pe_cutE (pe_c (oWorthsOrRing T) hr (by decide) (by rfl) (pa_cons (pv 3) (pa_cons (pv 4) (pa_cons (pv 5) pa_nil))))) (pg_tup rfl (pgs_cons (pg_name (i := 8) scRate.nd rfl (.inl rfl)) (pgs_cons (pg_name (i := 9) scRate.nd rfl (.inl rfl)) (pgs_cons (pg_name (i := 10) scRate.nd rfl (.inl rfl)) pgs_nil)))))
       (pss_cons (ps_while PassesOwn.never (pt_cmpR op_isN (pv 8) pe_non (nomark _))
       (pss_cons (ps_asg (pe_c (oLowest T) hr (by decide) (by rfl) (pa_cons (pe_callB (kSum K rfl rfl) (by rfl) (f_sum T) (by decide +kernel) (pa_cons (pe_lc (own := [("edge", 11)]) (g := gName 11) rfl scRate.nd (kPiL K rfl (pv 10)) (blkOk_by (own := [("edge", 11)]) (N := NRate) (sc := defScope sRate) (by decide +kernel)) (fun _ _ _ _ _ => (pg_name (i := 11) scRate.nd rfl (.inl rfl))) (fun _ _ _ _ _ => pts_nil) (fun _ _ _ _ _ => (pe_ix (kIxT K rfl) (pv 11) pe_int (fun _ _ => rfl)))) pa_nil)) (pa_cons (pe_callB (kLen K rfl) (by rfl) (f_len T) (by decide +kernel) (pa_cons (pv 10) pa_nil)) pa_nil))) (pg_tup rfl (pgs_cons (pg_name (i := 4) scRate.nd rfl (.inl rfl)) (pgs_cons (pg_name (i := 5) scRate.nd rfl (.inl rfl)) pgs_nil))))
       (pss_cons (ps_par (i := 6) (j := 7) (by rfl) scRate.nd rfl rfl (by decide) rfl rfl (pa_cons (pe_dget hu (pe_c (oLeastTexts T) hr (by decide) (by rfl) (pa_cons (pe_c (oGoalsOf T) hr (by decide) (by rfl) (pa_cons (pv 2) pa_nil)) pa_nil)) (pe_ix (kIxL K rfl) (pv 9) pe_int (fun _ _ => rfl)) (fun _ _ => rfl)) (pa_cons (kJoin K rfl pe_str (pe_lc (own := [("edge", 11)]) (g := gName 11) rfl scRate.nd (kPiL K rfl (pv 10)) (blkOk_by (own := [("edge", 11)]) (N := NRate) (sc := defScope sRate) (by decide +kernel)) (fun _ _ _ _ _ => (pg_name (i := 11) scRate.nd rfl (.inl rfl))) (fun _ _ _ _ _ => pts_nil) (fun _ _ _ _ _ => (pe_ix (kIxT K rfl) (pv 11) pe_int (fun _ _ => rfl))))) pa_nil)) (by rfl))
       (pss_one (ps_asg (pe_cutE (pe_c (oWorthsOrRing T) hr (by decide) (by rfl) (pa_cons (pv 3) (pa_cons (pv 4) (pa_cons (pv 5) pa_nil))))) (pg_tup rfl (pgs_cons (pg_name (i := 8) scRate.nd rfl (.inl rfl)) (pgs_cons (pg_name (i := 9) scRate.nd rfl (.inl rfl)) (pgs_cons (pg_name (i := 10) scRate.nd rfl (.inl rfl)) pgs_nil)))))))))
       (pss_one (ps_ret (pe_tup (pa_cons (pv 4) (pa_cons (pv 5) (pa_cons (pv 6) (pa_cons (pv 7) (pa_cons (pv 8) pa_nil))))))))))))), ?_⟩
    have hsz : sizeLine = 16777216 := sizeLine_eq
    refine ⟨_, rfl, rfl, ?_⟩
    obtain ⟨cl, hM⟩ := few
    refine ⟨_, rfl, _, rfl, rfl, rfl, a, L, M, rfl, hl, ok, ⟨cl, hM⟩, fun H1 m rows s1 hm hR => ?_⟩
    obtain ⟨dm, rt, vs, hm1, hrt, hrows⟩ := hm
    refine gp hm1 rfl ?_
    obtain ⟨grp, S⟩ := mach_sim ok cl hM hR
    have rok := S.rowsOk
    have rall := reach_all ok cl hM hR
    obtain ⟨hrn, hr0, mok⟩ := mach_rows ok cl hM hR
    -- edges, p, q, stream, ring
    refine ⟨_, rfl, rt, vs, rows, rfl, hrt, hrows, hrn, mok, fun H2 el ys s2 hel hed => ?_⟩
    refine ⟨_, _, 97, rfl, rfl, by show 26 ≤ sizeLine; omega, by decide +kernel, by show 5 ≤ sizeLine; omega, fun T0 nT0 => ?_⟩
    have s3 := same_upd (o := .tup [.ref el, .int 0, .int 1, .str "", .str ⟨#[97]⟩]) nT0
    have hT3 : (upd H2 T0 (.tup [.ref el, .int 0, .int 1, .str "", .str ⟨#[97]⟩])) T0 = some (.tup [.ref el, .int 0, .int 1, .str "", .str ⟨#[97]⟩]) := upd_same
    have s03 : Same H (upd H2 T0 (.tup [.ref el, .int 0, .int 1, .str "", .str ⟨#[97]⟩])) := Same.trans s1 (Same.trans s2 s3)
    refine ⟨T0, [.ref el, .int 0, .int 1, .str "", .str ⟨#[97]⟩], rfl, .inl (.inl hT3), rfl, _, _, rfl, _, _, rfl, _, _, rfl, _, _, rfl, _, _, rfl, rfl, ?_⟩
    have hrt3 := s3 _ _ (s2 _ _ hrt)
    have hrows3 := Paired.mapP hrows fun _ _ z => z.im (Imm.of_same (Same.trans s2 s3))
    have hel3 := s3 _ _ hel
    have hed3 := Paired.mapP hed fun _ _ z => z.same s3
    generalize (upd H2 T0 (.tup [.ref el, .int 0, .int 1, .str "", .str ⟨#[97]⟩])) = H3 at s03 hrt3 hrows3 hel3 hed3 ⊢
    clear s3 hT3 nT0 hel hed hrows hrt s2 s1
    have hel5 : (edgesM rows).length = rows.length := edgesM_len
    refine ⟨WRq H3 rows 0 1, ⟨_, rfl, _, rfl, _, rfl, el, 0, 1, ys, edgesM rows, rfl, hel3, hed3, by omega, by omega, by omega, by omega, wr0 rok, wr1 (p := 0) (q := 1), wr2 (p := 0) (q := 1)⟩, ?_⟩
    rintro _ H4 ⟨T4, x8, x9, x10, rfl, s4, hT4, hw4⟩
    refine ⟨T4, _, rfl, .inl (.inl hT4), rfl, _, _, rfl, _, _, rfl, _, _, rfl, rfl, ?_⟩
    refine ⟨fun m σ H5 => ∃ (p q : Nat) (first ring : List Nat) (x8 x9 x10 : V) (x11 : Option V), m = 4000000 - 4000000 * p / q ∧ σ = [some (.ref a), some (.int 2000), some (.ref rt), some (.ref el), some (.int (p : Int)), some (.int (q : Int)), some (.str (tx first)), some (.str (tx ring)), some x8, some x9, some x10, x11] ∧ Same H3 H5 ∧ WR H5 rows p q x8 x9 x10 ∧ RingSide rows p q first ring,
      ⟨_, 0, 1, [], [97], x8, x9, x10, _, rfl, rfl, s4, hw4, ⟨by omega, by omega, by omega, fun c hc => (by cases hc), fun c hc => by rw [List.mem_singleton.mp hc]; decide, Nat.zero_le _, by decide, .inl ⟨rfl, rfl, rfl⟩⟩⟩, ?_⟩
    rintro m σ H5 ⟨p, qq, first, ring, y8, y9, y10, y11, rfl, rfl, s5, hw5, side⟩
    rcases hw5 with ⟨wt, ws, rfl, hwt, hwl, hwok⟩ | ⟨pl, tl, places, taken, us, C, rfl, rfl, rfl, hpl, htl, hus, hring, htk, hin, hgain⟩
    · refine ⟨_, rfl, rfl, false, rfl, iteF ?_⟩
      refine ⟨_, rfl, _, rfl, _, rfl, _, rfl, _, rfl, by show 5 ≤ sizeLine; omega, fun T6 nT6 => ?_⟩
      have s6 := same_upd (o := .tup [.int (p : Int), .int (qq : Int), .str (tx first), .str (tx ring), .ref wt]) nT6
      exact q _ T6 p qq first ring wt ws rows (s03.trans (s5.trans s6)) upd_same (s6 _ _ hwt) hR ⟨side.q1, hwl, hwok, side.fa, side.ra, side.fl, side.rl, side.ring⟩
    · refine ⟨_, rfl, rfl, true, rfl, iteT ?_⟩
      have htl2 : us.length = taken.length := Paired.length hus
      have hpt : places.length = taken.length := Paired.length htk
      have hpl2 : 1 ≤ places.length := List.length_pos_iff.mpr hring.ne
      have hpl3 : places.length ≤ 2000 := by
        have := nodup_bound hring.nd hring.lt
        omega
      let x0 := places.headD 0
      obtain ⟨w1, w2, w3, w4⟩ := ring_walk hring.chain htk hin
      have hx0 : x0 < rows.length := hring.lt _ (by
        show places.headD 0 ∈ places
        cases hpp : places with
        | nil => exact absurd hpp hring.ne
        | cons y l => exact List.mem_cons_self ..)
      have hwalk : ∀ x d, places ≠ [] → places.headD x = places.headD d := fun x d h => by
        cases places with
        | nil => exact absurd rfl h
        | cons y l => rfl
      let tt := (taken.map (·.ch)).sum
      let bb := taken.length
      have hbb : 1 ≤ bb ∧ bb ≤ 2000 := ⟨by show 1 ≤ taken.length; omega, by show taken.length ≤ 2000; omega⟩
      have hgain2 : 0 < (qq : Int) * (tt : Int) - (p : Int) * (bb : Int) := by
        rw [cost_sum] at hgain
        exact hgain
      have hlt := cost_pos hbb.1 hgain2
      have hbg : bb / Nat.gcd tt bb ≤ bb := Nat.div_le_self ..
      have hgp : 0 < Nat.gcd tt bb := Nat.gcd_pos_of_pos_right _ hbb.1
      have hb1 : 1 ≤ bb / Nat.gcd tt bb := Nat.div_pos (Nat.le_of_dvd hbb.1 (Nat.gcd_dvd_right tt bb)) hgp
      have hab : tt / Nat.gcd tt bb ≤ bb / Nat.gcd tt bb := Nat.div_le_div_right w4
      refine ⟨fun σ' H' => ∃ (first ring : List Nat) (x8 x9 x10 : V) (x11 : Option V), σ' = [some (.ref a), some (.int 2000), some (.ref rt), some (.ref el), some (.int ((tt / Nat.gcd tt bb : Nat) : Int)), some (.int ((bb / Nat.gcd tt bb : Nat) : Int)), some (.str (tx first)), some (.str (tx ring)), some x8, some x9, some x10, x11] ∧ Same H3 H' ∧ WR H' rows (tt / Nat.gcd tt bb) (bb / Nat.gcd tt bb) x8 x9 x10 ∧ RingSide rows (tt / Nat.gcd tt bb) (bb / Nat.gcd tt bb) first ring,
        fun σ' H' ⟨f2, r2, z8, z9, z10, z11, e1, e2, e3, e4⟩ => ⟨_, mu_lt side.q1 side.q2 hb1 (by omega) hab hlt, _, _, f2, r2, z8, z9, z10, z11, rfl, e1, e2, e3, e4⟩, ?_⟩
      -- sum
      refine ⟨_, rfl, tl, rfl, ⟨_, .inl (.inl htl)⟩, fun D hD => lc_map (walk_list (xs := us)) noA (fun i zs H6 => zs = ((taken.take i).map fun e => ((e.ch : Nat) : Int)).map V.int) hD id (by omega) (fun i zs H6 _ k _ => .inl (.inl (k.toSame _ _ htl))) rfl ?_ ?_⟩
      · rintro i x H6 H7 zs hi k rfl ⟨rfl, hy⟩ hD6 push
        obtain ⟨e, he, ae, rfl, hae⟩ := Paired.getL hus hy
        refine ⟨rfl, _, rfl, ae, _, _, _, rfl, rfl, .inl (.inl (k.toSame _ _ hae)), rfl, push _ _ Kp.refl ?_⟩
        rw [List.take_add_one, he, List.map_append, List.map_append]
        rfl
      intro H6 zs k6 hD6 t6
      subst t6
      rw [List.take_of_length_le (by omega)] at hD6
      have htl6 := k6.toSame _ _ htl
      have hsum : (taken.map fun e => ((e.ch : Nat) : Int)).sum = ((tt : Nat) : Int) := sum_cast taken
      refine ⟨D, taken.map fun e => ((e.ch : Nat) : Int), rfl, .inl (.inl hD6), ?_⟩
      refine ⟨_, rfl, tl, _, rfl, .inl (.inl (.inl htl6)), tt, bb, by rw [hsum, htl2]; rfl, hbb.1, hbb.2, fun H7 T7 s7 hT7 => ?_⟩
      refine ⟨T7, _, rfl, .inl (.inl hT7), rfl, _, _, rfl, _, _, rfl, rfl, ?_⟩
      have s37 : Same H3 H7 := s5.trans (k6.toSame.trans s7)
      have s57 : Same H5 H7 := k6.toSame.trans s7
      refine ⟨_, rfl, rt, vs, rows, rfl, s37 _ _ hrt3, Paired.mapP hrows3 fun _ _ z => z.im (Imm.of_same s37), hrn, fun r hr => (mok r hr).len, fun H8 gl gs s8 ngl hgl hgs => ?_⟩
      refine ⟨gl, gs, rows, rfl, hgl, hgs, hr0, hrn, mok, fun H9 d tm s9 hd tok tall => ?_⟩
      have s59 := s57.trans (s8.trans s9)
      obtain ⟨tr, htr1, htr2⟩ := rall x0 hx0
      have hmem := tall.path (fun r hr => (mok r hr).len) tok (t := tr) tall.1 htr1
      rw [htr2] at hmem
      obtain ⟨⟨g0, first2⟩, hfm, hg0⟩ := List.mem_map.mp hmem
      have hg0' : g0 = x0 := hg0
      subst hg0'
      obtain ⟨ti, hti⟩ := List.mem_iff_getElem?.mp hfm
      obtain ⟨f1, f2, f3⟩ := tok.at_ ti _ _ hti
      have tlen := tok.len
      have hti2 := (List.getElem?_eq_some_iff.mp hti).1
      have hval : DGet H9 d (.int ((places.getD 0 0 : Nat) : Int)) (some (.str (tx first2))) := by
        have h1 := DGet.k (k := Sum.inl ((x0 : Nat) : Int)) hd
        rw [tmKV_get tok.nd hti] at h1
        rw [getD_headD]
        exact h1
      refine ⟨_, rfl, pl, _, _, _, rfl, rfl, .inl (.inl (s59 _ _ hpl)), natI (j := 0) (by omega), d, _, rfl, hval, ?_⟩
      have htl9 := s59 _ _ htl
      have hus9 := Paired.mapP hus fun _ _ z => z.im (Imm.of_same s59)
      refine ⟨⟨_, rfl⟩, _, rfl, tl, rfl, ⟨_, .inl (.inl htl9)⟩, fun D2 hD2 => lc_map (walk_list (xs := us)) noA (fun i zs H10 => zs = sgs ((taken.take i).map (·.lt))) hD2 id (by omega) (fun i zs H10 _ k _ => .inl (.inl (k.toSame _ _ htl9))) rfl ?_ ?_⟩
      · rintro i x H10 H11 zs hi k rfl ⟨rfl, hy⟩ hD10 push
        obtain ⟨e, he, ae, rfl, hae⟩ := Paired.getL hus9 hy
        refine ⟨rfl, _, rfl, ae, _, _, _, rfl, rfl, .inl (.inl (k.toSame _ _ hae)), rfl, push _ _ Kp.refl ?_⟩
        rw [List.take_add_one, he, List.map_append]
        unfold sgs
        rw [List.map_append]
        rfl
      intro H10 zs k10 hD10 t10
      subst t10
      rw [List.take_of_length_le (by omega)] at hD10
      have hlt2 : (taken.map (·.lt)).length = taken.length := List.length_map ..
      refine ⟨_, D2, (((taken.map (·.lt)).map fun c => [c]).map tx), rfl, rfl, .inl (.inl (.inl (by rw [← sgs_str]; exact hD10))), by rw [sgs_sum]; show _ + _ * 0 ≤ _; omega, ?_⟩
      rw [join_sgs]
      have s310 : Same H3 H10 := s5.trans (s59.trans k10.toSame)
      -- worths_or_ring
      refine ⟨_, _, rfl, WRq H10 rows (tt / Nat.gcd tt bb) (bb / Nat.gcd tt bb), ⟨_, rfl, _, rfl, _, rfl, el, _, _, ys, edgesM rows, rfl, s310 _ _ hel3, Paired.mapP hed3 fun _ _ z => z.same s310, by omega, Int.natCast_nonneg _, Int.natCast_nonneg _, Int.ofNat_le.mpr (show bb / Nat.gcd tt bb ≤ 2000 by omega), wr0 rok, wr1, wr2⟩, ?_⟩
      rintro _ H12 ⟨T12, z8, z9, z10, rfl, s12, hT12, hw12⟩
      refine ⟨T12, _, rfl, .inl (.inl hT12), rfl, _, _, rfl, _, _, rfl, _, _, rfl, rfl, ?_⟩
      refine ⟨first2, taken.map (·.lt), z8, z9, z10, _, rfl, s310.trans s12, hw12, ⟨hb1, by omega, hab, f2, w3, by omega, by omega, .inr ?_⟩⟩
      rw [hwalk (places.headD 0) 0 hring.ne] at w1 w2
      rw [f1, hlt2]
      exact ⟨w1, (congrArg (fun z => bb / Nat.gcd tt bb * z) w2).trans cross⟩
  · exact F.binds0 1 (by intro z; cases z) rfl fun D doc pm an cdv ct us ks h1 h2 => match us, ks, h1, h2 with | [_], [_], _, _ => ⟨_, _, _, _, _, _, rfl, rfl, rfl⟩
end
end Mw


set_option Elab.async false
set_option linter.all false
set_option maxRecDepth 100000
set_option maxHeartbeats 4000000
set_option pp.maxSteps 600
set_option pp.deepTerms false
namespace Mw
open PySem PySem.Spec PyProof.Rows L2
open C8 (Cal pe_c Mak pe_mk)
/-! ### draws -/
def drKV (a1 a2 : Addr) (r t m : Int) : List (Key × V) := [(Sum.inr "large", .ref a1), (Sum.inr "cells", .ref a2), (Sum.inr "rest", .int r), (Sum.inr "turn", .int t), (Sum.inr "mix", .int m)]
structure DrawN (H : Hp) (d a1 a2 : Addr) (ls cs : List Int) (r t m : Int) : Prop where
  hd : H d = some (.dK (drKV a1 a2 r t m))
  h1 : H a1 = some (.lst (ls.map V.int))
  h2 : H a2 = some (.lst (cs.map V.int))
  l0 : ∀ x ∈ ls, 0 ≤ x
  ll : ls.length ≤ 63
  cl : cs.length ≤ 63
  r0 : 0 ≤ r
  m0 : 0 ≤ m ∧ m < 2147483629
  ne : a1 ≠ a2
def Draw (H : Hp) (d a1 a2 : Addr) : Prop := ∃ ls cs r t m, DrawN H d a1 a2 ls cs r t m
/-- what a draw changes -/
abbrev dA (d a1 : Addr) : Addr → Prop := fun x => x = d ∨ x = a1
theorem DrawN.d1 {H : Hp} {d a1 a2 : Addr} {ls cs : List Int} {r t m : Int} (h : DrawN H d a1 a2 ls cs r t m) : d ≠ a1 := ne_of h.hd h.h1 (by intro z; cases z)
theorem DrawN.d2 {H : Hp} {d a1 a2 : Addr} {ls cs : List Int} {r t m : Int} (h : DrawN H d a1 a2 ls cs r t m) : d ≠ a2 := ne_of h.hd h.h2 (by intro z; cases z)
theorem DrawN.same {H H' : Hp} {d a1 a2 : Addr} {ls cs : List Int} {r t m : Int} (h : DrawN H d a1 a2 ls cs r t m) (s : Same H H') : DrawN H' d a1 a2 ls cs r t m := ⟨s _ _ h.hd, s _ _ h.h1, s _ _ h.h2, h.l0, h.ll, h.cl, h.r0, h.m0, h.ne⟩
theorem Draw.same {H H' : Hp} {d a1 a2 : Addr} (h : Draw H d a1 a2) (s : Same H H') : Draw H' d a1 a2 := by
  obtain ⟨ls, cs, r, t, m, h⟩ := h
  exact ⟨ls, cs, r, t, m, h.same s⟩
/-- what else changes is none of the draw's -/
theorem Draw.kp {A : Addr → Prop} {H H' : Hp} {d a1 a2 : Addr} (h : Draw H d a1 a2) (k : Kp A H H') (n0 : ¬ A d) (n1 : ¬ A a1) (n2 : ¬ A a2) : Draw H' d a1 a2 := by
  obtain ⟨ls, cs, r, t, m, h⟩ := h
  exact ⟨ls, cs, r, t, m, k.kp _ _ h.hd n0, k.kp _ _ h.h1 n1, k.kp _ _ h.h2 n2, h.l0, h.ll, h.cl, h.r0, h.m0, h.ne⟩
/-- an address that is free where the draw stands is none of its -/
theorem Draw.ne0 {H : Hp} {d a1 a2 x : Addr} (h : Draw H d a1 a2) (hx : H x = none) : ¬ dA d a1 x := by
  obtain ⟨ls, cs, r, t, m, h⟩ := h
  rintro (z | z)
  · rw [z, h.hd] at hx; cases hx
  · rw [z, h.h1] at hx; cases hx
theorem Draw.has1 {H : Hp} {d a1 a2 : Addr} (h : Draw H d a1 a2) : ∃ o, H a1 = some o := by
  obtain ⟨ls, cs, r, t, m, h⟩ := h
  exact ⟨_, h.h1⟩
theorem Draw.has0 {H : Hp} {d a1 a2 : Addr} (h : Draw H d a1 a2) : ∃ o, H d = some o := by
  obtain ⟨ls, cs, r, t, m, h⟩ := h
  exact ⟨_, h.hd⟩
section
variable {a1 a2 : Addr} {r t m : Int}
theorem drG1 : valV (drKV a1 a2 r t m) (Sum.inr "large") = some (.ref a1) := by rfl
theorem drG2 : valV (drKV a1 a2 r t m) (Sum.inr "cells") = some (.ref a2) := by rfl
theorem drG3 : valV (drKV a1 a2 r t m) (Sum.inr "rest") = some (.int r) := by rfl
theorem drG4 : valV (drKV a1 a2 r t m) (Sum.inr "turn") = some (.int t) := by rfl
theorem drG5 : valV (drKV a1 a2 r t m) (Sum.inr "mix") = some (.int m) := by rfl
theorem drP3 {i : Int} : putK (drKV a1 a2 r t m) (Sum.inr "rest") (.int i) = drKV a1 a2 i t m := by rfl
theorem drP4 {i : Int} : putK (drKV a1 a2 r t m) (Sum.inr "turn") (.int i) = drKV a1 a2 r i m := by rfl
theorem drP5 {i : Int} : putK (drKV a1 a2 r t m) (Sum.inr "mix") (.int i) = drKV a1 a2 r t i := by rfl
theorem drM {i : Int} : mergeK [] (drKV a1 a2 r t m) = drKV a1 a2 r t m := by rfl
end
/-- another number is put in -/
theorem DrawN.put {H : Hp} {d a1 a2 : Addr} {ls cs : List Int} {r t m r' t' m' : Int} (h : DrawN H d a1 a2 ls cs r t m) (hr : 0 ≤ r') (hm : 0 ≤ m' ∧ m' < 2147483629) : DrawN (upd H d (.dK (drKV a1 a2 r' t' m'))) d a1 a2 ls cs r' t' m' :=
  ⟨upd_same, (upd_ne h.d1.symm).trans h.h1, (upd_ne h.d2.symm).trans h.h2, h.l0, h.ll, h.cl, hr, hm, h.ne⟩
theorem DrawN.putK {H : Hp} {d a1 a2 : Addr} {ls cs : List Int} {r t m r' t' m' : Int} (h : DrawN H d a1 a2 ls cs r t m) : Kp (dA d a1) H (upd H d (.dK (drKV a1 a2 r' t' m'))) := Kp.wr (.inl rfl) h.hd (fun z => z)
theorem dget_at {H : Hp} {d : Addr} {kvs : List (Key × V)} {v : V} (k : Key) (h : H d = some (.dK kvs)) (e : valV kvs k = some v) : DGet H d (kV k) (some v) := by
  have h := DGet.k (k := k) h
  rw [e] at h
  exact h
section
variable {H : Hp} {d a1 a2 : Addr} {ls cs : List Int} {r t m : Int}
theorem DrawN.gL (h : DrawN H d a1 a2 ls cs r t m) : DGet H d (.str "large") (some (.ref a1)) := dget_at (.inr "large") h.hd drG1
theorem DrawN.gC (h : DrawN H d a1 a2 ls cs r t m) : DGet H d (.str "cells") (some (.ref a2)) := dget_at (.inr "cells") h.hd drG2
theorem DrawN.gR (h : DrawN H d a1 a2 ls cs r t m) : DGet H d (.str "rest") (some (.int r)) := dget_at (.inr "rest") h.hd drG3
theorem DrawN.gT (h : DrawN H d a1 a2 ls cs r t m) : DGet H d (.str "turn") (some (.int t)) := dget_at (.inr "turn") h.hd drG4
theorem DrawN.gM (h : DrawN H d a1 a2 ls cs r t m) : DGet H d (.str "mix") (some (.int m)) := dget_at (.inr "mix") h.hd drG5
end
theorem lay_intsL (ns : List Int) : SeqAt.shaped (.list (ns.map PyData.int)) = true := by
  unfold SeqAt.shaped
  rw [PyData.canLay0, lay_ints, PyData.depth, dep_ints]
  rfl
theorem fmod_pos (i : Int) {n : Int} (h : 0 < n) : 0 ≤ i.fmod n ∧ i.fmod n < n := ⟨Int.fmod_nonneg_of_pos i h, Int.fmod_lt_of_pos i h⟩
section
variable {P : Program} {w : World} {K : PySem.W.Frag} {mg : Str → Option Value} {base : Heap}
/-! ### l.begin -/
abbrev NLBegin : List Str := ["_law_script", "_law_large", "_law_cell"]
theorem scLBegin : FnScope NLBegin ["_law_script"] (defScope sLBegin) := ⟨rfl, rfl, rfl, by decide +kernel, rfl, by decide +kernel, by decide +kernel⟩
def spLBegin (P : Program) (w : World) (K : PySem.W.Frag) : Sp := fun vs H Q _ => ∃ (a : Addr) (ns : List Int), vs = [.ref a] ∧ SqL K H a (ns.map V.int) ∧ ns.length ≤ 63 ∧ ∀ H' d a1 a2, Same H H' → H d = none → H a1 = none → Draw H' d a1 a2 → Q (.ref d) H'
theorem oLBegin (T : Txt K mg) : Cal P w K mg base 1 "_law_begin" (spLBegin P w K) [] := by
  refine calD (dLBegin_fn T) (gLBegin T) scLBegin (fun vs H Q E h => ?_) (fun _ _ _ _ _ _ us hl => match us, hl with | [_], _ => rfl) (fun cdv A outer s H vs Q E hr h => ?_)
  · obtain ⟨a, ns, rfl, _⟩ := h
    rfl
  · obtain ⟨a, ns, rfl, ha, hn, q⟩ := h
    refine ⟨_, PSs.nox (pss_cons (ps_setLc (i := 1) (own := [("_law_cell", 2)]) (g := gName 2) rfl scLBegin.nd rfl rfl (sw_true rfl rfl rfl (by decide +kernel)) (kPiL K rfl (pv 0)) (blkOk_by (own := [("_law_cell", 2)]) (N := NLBegin) (sc := defScope sLBegin) (by decide +kernel)) (fun _ _ _ _ _ => (pg_name (i := 2) scLBegin.nd rfl (.inl rfl))) (fun _ _ _ _ _ => (pts_one (pt_cmpR op_ge (pe_callB call_abs (by rfl) (f_abs T) (by decide +kernel) (pa_cons (pv 2) pa_nil)) (pe_op op_pow pe_int pe_int) (nomark _)))) (fun _ _ _ _ _ => (pe_callB call_abs (by rfl) (f_abs T) (by decide +kernel) (pa_cons (pv 2) pa_nil))))
       (pss_one (ps_ret (pe_disp (pps_cons pe_str (pv 1) (pps_cons pe_str (pe_callTy (kList K rfl) (by rfl) (f_list T) (by decide +kernel) (pa_cons (pv 0) pa_nil)) (pps_cons pe_str pe_int (pps_cons pe_str pe_int (pps_cons pe_str pe_int pps_nil))))) (by rfl) (by rfl) (fun z => by cases z) (by decide))))), ?_⟩
    have hsz : sizeLine = 16777216 := sizeLine_eq
    have p18 : CPow 10 18 := ⟨by decide, by decide, by decide⟩
    refine ⟨_, rfl, a, rfl, ⟨_, ha⟩, fun D hD => lc_gen (walk_list (xs := ns.map V.int)) noA (fun i ys H2 => ∃ ls : List Int, ys = ls.map V.int ∧ (∀ x ∈ ls, 0 ≤ x) ∧ ls.length ≤ i) hD id (by rw [List.length_map]; omega) (fun i ys H2 _ k _ => k.toSame.seq ha) ⟨[], rfl, fun x hx => (by cases hx), Nat.le_refl _⟩ ?_ ?_⟩
    · rintro i x H1 H2 ys hi k ⟨ls, rfl, hls, hll⟩ ⟨rfl, hx⟩ eD push skip
      obtain ⟨z, hz, rfl⟩ : ∃ z, ns[i]? = some z ∧ V.int z = x := by
        rw [List.getElem?_map] at hx
        obtain ⟨z, hz, e⟩ := Option.map_eq_some_iff.mp hx
        exact ⟨z, hz, e⟩
      refine ⟨rfl, _, rfl, z, rfl, _, _, rfl, rfl, p18, _, _, rfl, rfl, _, rfl, ite2 (fun e => ?_) (fun e => ?_)⟩
      · refine ⟨_, rfl, z, rfl, push _ _ Kp.refl ⟨ls ++ [if z < 0 then -z else z], by rw [List.map_append]; rfl, fun y hy => ?_, by rw [List.length_append]; exact Nat.succ_le_succ hll⟩⟩
        rcases List.mem_append.mp hy with y1 | y1
        · exact hls y y1
        · rw [List.mem_singleton.mp y1]
          split <;> omega
      · exact skip _ Kp.refl ⟨ls, rfl, hls, by omega⟩
    · rintro H1 ys k eD ⟨ls, rfl, hls, hll⟩
      rw [List.length_map] at hll
      refine fun d nd => ⟨_, rfl, _, rfl, a, _, rfl, .inl ((k.toSame.trans (same_upd nd)).seq ha), fun l nl => ?_⟩
      have s1 : Same H1 (upd H1 d (.dK [])) := same_upd nd
      have hnd : H d = none := by
        cases e : H d with
        | none => rfl
        | some o => rw [k.toSame _ _ e] at nd; cases nd
      have ndl : d ≠ l := ne_of_none (show (upd H1 d (.dK [])) d = some (.dK []) from upd_same) nl
      have ndD : D ≠ d := ne_of_none eD nd
      have nlD : D ≠ l := ne_of_none (s1 _ _ eD) nl
      refine ⟨(upd_ne ndl).trans upd_same, drKV D l 0 0 7, rfl, by show 5 ≤ 15; omega, ?_⟩
      rw [drM (i := 0)]
      refine q _ d D l (Same.wr (k.toSame.trans (s1.trans (same_upd nl))) hnd) hnd hD ⟨ls, ns, 0, 0, 7, upd_same, ?_, ?_, hls, by omega, hn, by omega, by omega, nlD⟩
      · rw [upd_ne ndD, upd_ne nlD]
        exact s1 _ _ eD
      · rw [upd_ne ndl.symm]
        exact upd_same
/-! ### l.take -/
abbrev NLTake : List Str := ["_law_draw", "_law_size", "_law_cell", "_law_found"]
theorem scLTake : FnScope NLTake ["_law_draw", "_law_size"] (defScope sLTake) := ⟨rfl, rfl, rfl, by decide +kernel, rfl, by decide +kernel, by decide +kernel⟩
def spLTake (P : Program) (w : World) (K : PySem.W.Frag) : Sp := fun vs H Q _ => ∃ (d a1 a2 : Addr) (n : Nat), vs = [.ref d, .int (n : Int)] ∧ Draw H d a1 a2 ∧ 1 ≤ n ∧ n < 1073741824 ∧ ∀ H' (k : Nat), Kp (dA d a1) H H' → Draw H' d a1 a2 → k < n → Q (.int (k : Int)) H'
theorem oLTake (T : Txt K mg) : Cal P w K mg base 1 "_law_take" (spLTake P w K) [] := by
  refine calD (dLTake_fn T) (gLTake T) scLTake (fun vs H Q E h => ?_) (fun _ _ _ _ _ _ us hl => match us, hl with | [_, _], _ => rfl) (fun cdv A outer s H vs Q E hr h => ?_)
  · obtain ⟨d, a1, a2, n, rfl, _⟩ := h
    rfl
  · obtain ⟨d, a1, a2, n, rfl, ⟨ls, cs, r, t, m, D⟩, h1, h2, q⟩ := h
    have hu := hu_of hr
    refine ⟨_, PSs.nox (C8.pss_cut (ps_if (PW.pt (pw_and (pt_cmpR op_eq (pe_dget hu (pv 0) pe_str (fun _ _ => rfl)) pe_int (nomark _)) (pw_and1 (pt_cmpR (kNeD K rfl hr.units) (pe_dget hu (pv 0) pe_str (fun _ _ => rfl)) (pe_lst pa_nil) (nomark _)))))
       (pss_one (ps_dput hu (pv 0) pe_str (pe_bm PySem.F.plainAttrs_list PySem.F.slot_list_pop PySem.F.type_list_pop mt_popAt (pe_dget hu (pv 0) pe_str (fun _ _ => rfl)) (pa_cons pe_int pa_nil)) rfl))
       (pss_one (ps_if (pt_cmpR op_eq (pe_dget hu (pv 0) pe_str (fun _ _ => rfl)) pe_int (nomark _))
       (pss_cons (ps_dput hu (pv 0) pe_str (pe_op op_add (pe_dget hu (pv 0) pe_str (fun _ _ => rfl)) pe_int) rfl)
       (pss_cons (ps_for PassesOwn.never rfl (kPiL K rfl (pe_op op_cat (pe_lst (pa_cons (pe_dget hu (pv 0) pe_str (fun _ _ => rfl)) pa_nil)) (pe_dget hu (pv 0) pe_str (fun _ _ => rfl)))) (pg_name (i := 2) scLTake.nd rfl (.inl rfl))
       (pss_one (ps_dput hu (pv 0) pe_str (pe_op op_modN (pe_callTy call_int1 (by rfl) (f_int T) (by decide +kernel) (pa_cons (pe_op op_add (pe_op op_add (pe_op op_mul (pe_dget hu (pv 0) pe_str (fun _ _ => rfl)) pe_int) (pe_op op_mul (pv 2) pe_int)) pe_int) pa_nil)) pe_int) rfl)))
       (pss_one (ps_dput hu (pv 0) pe_str (pe_op op_modN (pe_callTy call_int1 (by rfl) (f_int T) (by decide +kernel) (pa_cons (pe_op op_pow (pe_dget hu (pv 0) pe_str (fun _ _ => rfl)) pe_int) pa_nil)) pe_int) rfl))))
       pss_nil)))
       (pss_cons (ps_asg (pe_callB call_divmod (by rfl) (f_divmod T) (by decide +kernel) (pa_cons (pe_dget hu (pv 0) pe_str (fun _ _ => rfl)) (pa_cons (pv 1) pa_nil))) (pg_tup rfl (pgs_cons (pg_sub (pv 0) pe_str (set_dict hu)) (pgs_cons (pg_name (i := 3) scLTake.nd rfl (.inl rfl)) pgs_nil))))
       (pss_one (ps_ret (pv 3))))), ?_⟩
    have hsz : sizeLine = 16777216 := sizeLine_eq
    refine ⟨fun σ' H' => ∃ x2 ls r t m, σ' = [some (.ref d), some (.int (n : Int)), x2, (none : Option V)] ∧ Kp (dA d a1) H H' ∧ DrawN H' d a1 a2 ls cs r t m, ?_, ?_⟩
    · refine ⟨_, rfl, d, _, rfl, D.gR, rfl, _, rfl, ?_⟩
      refine ite2 (fun e => ?_) (fun e => ?_)
      · have hr0 : r = 0 := V.int.inj (of_decide_eq_true e)
        subst hr0
        refine ⟨_, rfl, d, _, rfl, D.gL, Nat.zero_le _, fun l nl => ?_⟩
        have s2 := same_upd (o := .lst []) nl
        have D2 := D.same s2
        have hl2 : (upd H l (.lst [])) l = some (.lst []) := upd_same
        generalize (upd H l (.lst [])) = H2 at s2 D2 hl2 ⊢
        have dl : Dp K H2 (.ref a1) (.list (ls.map PyData.int)) := .lst (.inl (.inl D2.h1)) (dp_ints ls)
        have dn : Dp K H2 (.ref l) (.list []) := .lst (.inl (.inl hl2)) .nil
        cases hls : ls with
        | cons x ls' =>
          subst hls
          refine ⟨_, _, dl, dn, lay_intsL _, shaped_lnil, true, by rw [eqv_lnil]; rfl, iteT ?_⟩
          have hx0 : 0 ≤ x := D2.l0 x (List.mem_cons_self ..)
          refine ⟨_, rfl, d, _, rfl, D2.gL, .inl ⟨rfl, _, .inl (.inl D2.h1)⟩, a1, _, 0, 0, .int x, rfl, rfl, D2.h1, by decide, by decide, seqIndex_at (by decide) (by simp), rfl, ?_⟩
          have hd3 : (upd H2 a1 (.lst (ls'.map V.int))) d = some (.dK (drKV a1 a2 0 t m)) := (upd_ne D2.d1).trans D2.hd
          have D3 : DrawN (upd H2 a1 (.lst (ls'.map V.int))) d a1 a2 ls' cs 0 t m := ⟨hd3, upd_same, (upd_ne D2.ne.symm).trans D2.h2, fun y hy => D2.l0 y (List.mem_cons_of_mem _ hy), by have := D2.ll; rw [List.length_cons] at this; omega, D2.cl, D2.r0, D2.m0, D2.ne⟩
          refine ⟨_, rfl, d, _, rfl, DPut.k (k := Sum.inr "rest") hd3 (by show 5 < sizeLine; omega), ?_⟩
          exact ⟨_, ls', x, t, m, rfl, ((Kp.same s2).trans (Kp.wr (.inr rfl) D2.h1 (fun z => z))).trans D3.putK, D3.put hx0 D3.m0⟩
        | nil =>
          subst hls
          refine ⟨_, _, dl, dn, lay_intsL _, shaped_lnil, false, by rw [eqv_lnil]; rfl, iteF ?_⟩
          refine ⟨_, rfl, d, _, rfl, D2.gR, rfl, _, rfl, iteD rfl ?_⟩
          refine ⟨_, rfl, d, _, rfl, D2.gT, _, _, rfl, rfl, _, rfl, d, _, rfl, DPut.k (k := Sum.inr "turn") D2.hd (by show 5 < sizeLine; omega), ?_⟩
          have D3 := D2.put (r' := 0) (t' := t + 1) (by omega) D2.m0
          have k3 : Kp (dA d a1) H (upd H2 d (.dK (drKV a1 a2 0 (t + 1) m))) := (Kp.same s2).trans D2.putK
          rw [drP4]
          generalize (upd H2 d (.dK (drKV a1 a2 0 (t + 1) m))) = H3 at D3 k3 ⊢
          refine ⟨_, rfl, d, _, rfl, D3.gT, by show 1 ≤ sizeLine; omega, fun l4 nl4 => ?_⟩
          have s4 := same_upd (o := .lst [.int (t + 1)]) nl4
          have D4 := D3.same s4
          have hl4 : (upd H3 l4 (.lst [.int (t + 1)])) l4 = some (.lst [.int (t + 1)]) := upd_same
          generalize (upd H3 l4 (.lst [.int (t + 1)])) = H4 at s4 D4 hl4 ⊢
          refine ⟨_, rfl, d, _, rfl, D4.gC, l4, a2, _, _, rfl, rfl, hl4, D4.h2, by have := D4.cl; rw [List.length_map]; show 1 + _ ≤ _; omega, fun p np => ?_⟩
          have s5 := same_upd (o := .lst ([.int (t + 1)] ++ cs.map V.int)) np
          have D5 := D4.same s5
          have hp5 : (upd H4 p (.lst ([.int (t + 1)] ++ cs.map V.int))) p = some (.lst (((t + 1) :: cs).map V.int)) := upd_same
          generalize (upd H4 p (.lst ([.int (t + 1)] ++ cs.map V.int))) = H5 at s5 D5 hp5 ⊢
          have npd : ¬ dA d a1 p := Draw.ne0 ⟨_, _, _, _, _, D4⟩ np
          refine ⟨p, rfl, ⟨_, .inl (.inl hp5)⟩, for_it (walk_list (xs := ((t + 1) :: cs).map V.int)) (fun i σ H6 => ∃ x2 m', σ = [some (.ref d), some (.int (n : Int)), x2, (none : Option V)] ∧ Kp (dA d a1) H5 H6 ∧ DrawN H6 d a1 a2 [] cs 0 (t + 1) m') ⟨_, m, rfl, Kp.refl, D5⟩ (fun i σ H6 _ ⟨_, _, _, k6, _⟩ => .inl (.inl (k6.kp _ _ hp5 npd))) ?_ ?_⟩
          · rintro i x σ H6 H7 hi ⟨x2, m', rfl, k6, D6⟩ ⟨rfl, hx⟩
            obtain ⟨z, hz, rfl⟩ : ∃ z, ((t + 1) :: cs)[i]? = some z ∧ V.int z = x := by
              rw [List.getElem?_map] at hx
              obtain ⟨z, hz, e⟩ := Option.map_eq_some_iff.mp hx
              exact ⟨z, hz, e⟩
            refine ⟨_, rfl, d, _, rfl, D6.gM, _, _, rfl, rfl, .inr ⟨by decide, by decide⟩, _, rfl, _, _, rfl, rfl, .inr ⟨by decide, by decide⟩, _, _, rfl, rfl, _, _, rfl, rfl, .inl ⟨_, rfl, _, _, rfl, rfl, (fun z => by cases z), _, rfl, d, _, rfl, DPut.k (k := Sum.inr "mix") D6.hd (by show 5 < sizeLine; omega), ?_⟩⟩
            exact ⟨_, _, rfl, k6.trans D6.putK, D6.put D6.r0 (fmod_pos _ (by decide))⟩
          · rintro σ H6 ⟨x2, m', rfl, k6, D6⟩
            have m0 := D6.m0
            refine ⟨_, rfl, d, _, rfl, D6.gM, _, _, rfl, rfl, ⟨by decide, by decide, by omega⟩, .inl ⟨_, rfl, _, _, rfl, rfl, (fun z => by cases z), _, rfl, d, _, rfl, DPut.k (k := Sum.inr "rest") D6.hd (by show 5 < sizeLine; omega), ?_⟩⟩
            exact ⟨_, _, _, _, _, rfl, ((k3.trans (Kp.same (s4.trans s5))).trans k6).trans D6.putK, D6.put (fmod_pos _ (by decide)).1 D6.m0⟩
      · refine ⟨_, rfl, d, _, rfl, D.gR, rfl, _, rfl, iteDn (fun z => e (decide_eq_true z)) ?_⟩
        exact ⟨_, ls, r, t, m, rfl, Kp.refl, D⟩
    · rintro σ' H1 ⟨x2, ls, r, t, m, rfl, k1, D1⟩
      refine ⟨_, rfl, d, _, rfl, D1.gR, _, rfl, _, _, rfl, ⟨by omega, by omega⟩, fun T0 nT0 => ?_⟩
      have s2 := same_upd (o := .tup [.int (r / (n : Int)), .int (r % (n : Int))]) nT0
      have D2 := D1.same s2
      have hT2 : (upd H1 T0 (.tup [.int (r / (n : Int)), .int (r % (n : Int))])) T0 = some (.tup [.int (r / (n : Int)), .int (r % (n : Int))]) := upd_same
      generalize (upd H1 T0 (.tup [.int (r / (n : Int)), .int (r % (n : Int))])) = H2 at s2 D2 hT2 ⊢
      have r1 : 0 ≤ r / (n : Int) := Int.ediv_nonneg D2.r0 (by omega)
      have r2 : 0 ≤ r % (n : Int) := Int.emod_nonneg _ (by omega)
      have r3 : r % (n : Int) < n := Int.emod_lt_of_pos _ (by omega)
      refine ⟨T0, _, rfl, .inl (.inl hT2), rfl, _, _, rfl, _, rfl, d, _, rfl, DPut.k (k := Sum.inr "rest") D2.hd (by show 5 < sizeLine; omega), _, _, rfl, rfl, ?_⟩
      obtain ⟨k, hk⟩ := Int.eq_ofNat_of_zero_le r2
      rw [hk]
      exact ⟨_, rfl, q _ k (k1.trans ((Kp.same s2).trans D2.putK)) ⟨_, _, _, _, _, D2.put r1 D2.m0⟩ (by omega)⟩
/-! ### l.pick -/
abbrev NLPick : List Str := ["_law_draw", "_law_some"]
theorem scLPick : FnScope NLPick ["_law_draw", "_law_some"] (defScope sLPick) := ⟨rfl, rfl, rfl, by decide +kernel, rfl, by decide +kernel, by decide +kernel⟩
def spLPick (P : Program) (w : World) (K : PySem.W.Frag) : Sp := fun vs H Q _ => ∃ (d a1 a2 s : Addr) (xs : List V), vs = [.ref d, .ref s] ∧ Draw H d a1 a2 ∧ H s = some (.lst xs) ∧ s ≠ a1 ∧ 1 ≤ xs.length ∧ xs.length ≤ 1000 ∧ ∀ H' v, Kp (dA d a1) H H' → Draw H' d a1 a2 → v ∈ xs → Q v H'
theorem oLPick (T : Txt K mg) : Cal P w K mg base 2 "_law_pick" (spLPick P w K) [] := by
  refine calD (dLPick_fn T) (gLPick T) scLPick (fun vs H Q E h => ?_) (fun _ _ _ _ _ _ us hl => match us, hl with | [_, _], _ => rfl) (fun cdv A outer s H vs Q E hr h => ?_)
  · obtain ⟨d, a1, a2, s, xs, rfl, _⟩ := h
    rfl
  · obtain ⟨d, a1, a2, s, xs, rfl, D, hs, ns1, h1, h2, q⟩ := h
    refine ⟨_, PSs.nox (pss_one (ps_ret (pe_ix (kIxL K rfl) (pv 1) (pe_c (oLTake T) hr (by decide) (by rfl) (pa_cons (pv 0) (pa_cons (pe_callB (kLen K rfl) (by rfl) (f_len T) (by decide +kernel) (pa_cons (pv 1) pa_nil)) pa_nil))) (fun _ _ => rfl)))), ?_⟩
    obtain ⟨ls, cs, r, t, m, DN⟩ := id D
    have nsd : s ≠ d := ne_of hs DN.hd (by intro z; cases z)
    refine ⟨_, rfl, _, rfl, _, rfl, s, _, rfl, .inl (.inl (.inl hs)), d, a1, a2, xs.length, rfl, D, h1, by omega, fun H1 k k1 D1 hk => ?_⟩
    have hg := List.getElem?_eq_getElem hk
    refine ⟨s, _, _, xs[k], rfl, rfl, .inl (.inl (k1.kp _ _ hs (fun z => z.elim nsd ns1))), atI_nat hg, ?_⟩
    exact q H1 xs[k] k1 D1 (List.getElem_mem hk)
end
end Mw


set_option Elab.async false
set_option linter.all false
set_option maxRecDepth 100000
set_option maxHeartbeats 4000000
set_option pp.maxSteps 600
set_option pp.deepTerms false
namespace Mw
open PySem PySem.Spec PyProof.Rows L2
open C8 (Cal pe_c Mak pe_mk)
theorem map_erase {α β : Type} (f : α → β) : ∀ (l : List α) (k : Nat), (l.map f).eraseIdx k = (l.eraseIdx k).map f
  | [], k => rfl
  | x :: l, 0 => rfl
  | x :: l, k + 1 => by
    show f x :: (l.map f).eraseIdx k = f x :: (l.eraseIdx k).map f
    rw [map_erase f l k]
theorem Kp.bk {A : Addr → Prop} {H0 H : Hp} {p : Addr} {o u : HO} (k0 : Kp A H0 H) (hp : H0 p = none) (h : H p = some u) (n : ¬ isImm u) : Kp A H0 (upd H p o) :=
  k0.own (Kp.wr (A := fun a => a = p) rfl h n) fun a z => .inr (by rw [z]; exact hp)
theorem Kp.none {A : Addr → Prop} {H0 H : Hp} (k : Kp A H0 H) {x : Addr} (h : H x = none) : H0 x = none ∨ A x := by
  cases e : H0 x with
  | none => exact .inl rfl
  | some o =>
    by_cases z : A x
    · exact .inr z
    · rw [k.kp _ _ e z] at h; cases h
/-- what is free later was free before -/
theorem Draw.fr {H0 H : Hp} {d a1 a2 x : Addr} (h : Draw H d a1 a2) (k : Kp (dA d a1) H0 H) (hx : H x = none) : H0 x = none :=
  (k.none hx).elim id fun z => absurd z (h.ne0 hx)
theorem Draw.ne2 {H : Hp} {d a1 a2 x : Addr} (h : Draw H d a1 a2) (hx : H x = Option.none) : a2 ≠ x := by
  obtain ⟨ls, cs, r, t, m, h⟩ := h
  intro z
  rw [← z, h.h2] at hx; cases hx
/-- what stands at a new address is none of the draw's -/
theorem Draw.bk {H0 H : Hp} {d a1 a2 p : Addr} {o u : HO} (h : Draw H d a1 a2) (h0 : Draw H0 d a1 a2) (hp : H0 p = Option.none) (e : H p = some u) (n : ¬ isImm u) : Draw (upd H p o) d a1 a2 :=
  h.kp (Kp.wr (A := fun x => x = p) (o := o) rfl e n) (fun z => h0.ne0 hp (.inl z.symm)) (fun z => h0.ne0 hp (.inr z.symm)) (h0.ne2 hp)
theorem sgs_len (l : List Nat) : (sgs l).length = l.length := by unfold sgs; rw [List.length_map]
theorem sgs_snoc (l : List Nat) (c : Nat) : sgs (l ++ [c]) = sgs l ++ [.str (tx [c])] := by unfold sgs; rw [List.map_append]; rfl
theorem sgs_mem {l : List Nat} {v : V} (h : v ∈ sgs l) : ∃ c ∈ l, v = .str (tx [c]) := by
  obtain ⟨c, hc, e⟩ := List.mem_map.mp h
  exact ⟨c, hc, e.symm⟩
section
variable {P : Program} {w : World} {K : PySem.W.Frag} {mg : Str → Option Value} {base : Heap}
/-! ### l.letters -/
abbrev NLLetters : List Str := ["_law_draw", "_law_many", "_law_left", "_law_found", "_law_turn"]
theorem scLLetters : FnScope NLLetters ["_law_draw", "_law_many"] (defScope sLLetters) := ⟨rfl, rfl, rfl, by decide +kernel, rfl, by decide +kernel, by decide +kernel⟩
def spLLetters (P : Program) (w : World) (K : PySem.W.Frag) : Sp := fun vs H Q _ => ∃ (d a1 a2 : Addr) (n : Nat), vs = [.ref d, .int (n : Int)] ∧ Draw H d a1 a2 ∧ n ≤ 10 ∧ ∀ H' f cs, Kp (dA d a1) H H' → Draw H' d a1 a2 → H f = none → H' f = some (.lst (sgs cs)) → cs.length = n → (∀ c ∈ cs, c ∈ alphaL) → Q (.ref f) H'
theorem oLLetters (T : Txt K mg) : Cal P w K mg base 2 "_law_letters" (spLLetters P w K) [] := by
  refine calD (dLLetters_fn T) (gLLetters T) scLLetters (fun vs H Q E h => ?_) (fun _ _ _ _ _ _ us hl => match us, hl with | [_, _], _ => rfl) (fun cdv A outer s H vs Q E hr h => ?_)
  · obtain ⟨d, a1, a2, n, rfl, _⟩ := h
    rfl
  · obtain ⟨d, a1, a2, n, rfl, D, hn, q⟩ := h
    refine ⟨_, PSs.nox (pss_cons (ps_par (i := 2) (j := 3) (by rfl) scLLetters.nd rfl rfl (by decide) rfl rfl (pa_cons (pe_callTy (call_listS rfl) (by rfl) (f_list T) (by decide +kernel) (pa_cons pe_str pa_nil)) (pa_cons (pe_lst pa_nil) pa_nil)) (by rfl))
       (pss_cons (ps_for PassesOwn.never rfl (pi_range1 (by rfl) (f_range T) (pa_cons (pv 1) pa_nil)) (pg_name (i := 4) scLLetters.nd rfl (.inl rfl))
       (pss_one (ps_expr (pe_bm PySem.F.plainAttrs_list PySem.F.slot_list_append PySem.F.type_list_append mt_append (pv 3) (pa_cons (pe_bm PySem.F.plainAttrs_list PySem.F.slot_list_pop PySem.F.type_list_pop mt_popAt (pv 2) (pa_cons (pe_c (oLTake T) hr (by decide) (by rfl) (pa_cons (pv 0) (pa_cons (pe_callB (kLen K rfl) (by rfl) (f_len T) (by decide +kernel) (pa_cons (pv 2) pa_nil)) pa_nil))) pa_nil)) pa_nil)))))
       (pss_one (ps_ret (pv 3))))), ?_⟩
    have hsz : sizeLine = 16777216 := sizeLine_eq
    have hab : ("abcdefghijklmnopqrstuvwxyz" : Str) = tx alphaL := by decide +kernel
    have h26 : alphaL.length = 26 := by decide
    refine ⟨alphaL, by rw [hab], by decide, fun l nl => ⟨Nat.zero_le _, fun f nf => ⟨_, _, rfl, ?_⟩⟩⟩
    have k2 : Kp (dA d a1) H (upd (upd H l (.lst (sgs alphaL))) f (.lst [])) := (Kp.new nl).trans (Kp.new nf)
    have D2 : Draw (upd (upd H l (.lst (sgs alphaL))) f (.lst [])) d a1 a2 := D.same ((same_upd nl).trans (same_upd nf))
    have hl2 : (upd (upd H l (.lst (sgs alphaL))) f (.lst [])) l = some (.lst (sgs alphaL)) := same_upd nf _ _ upd_same
    have hf2 : (upd (upd H l (.lst (sgs alphaL))) f (.lst [])) f = some (.lst (sgs [])) := upd_same
    have nfl : f ≠ l := fun z => by rw [z, upd_same] at nf; cases nf
    have nf0 : H f = none := (D.same (same_upd nl)).fr (Kp.new nl) nf
    change tSeq _ _ _ _ (upd (upd H l (.lst (sgs alphaL))) f (.lst []))
    generalize (upd (upd H l (.lst (sgs alphaL))) f (.lst [])) = H2 at k2 D2 hl2 hf2 ⊢
    have hcount : ((n : Nat) : Int).toNat = n := by omega
    refine ⟨_, rfl, _, rfl, by omega, by omega, for_it walk_range (fun i σ H3 => ∃ x4 lft cs, σ = [some (.ref d), some (.int (n : Int)), some (.ref l), some (.ref f), x4] ∧ Kp (dA d a1) H H3 ∧ Draw H3 d a1 a2 ∧ H3 l = some (.lst (sgs lft)) ∧ H3 f = some (.lst (sgs cs)) ∧ lft.length + i = 26 ∧ cs.length = i ∧ (∀ c ∈ lft, c ∈ alphaL) ∧ (∀ c ∈ cs, c ∈ alphaL)) ?_ (fun _ _ _ _ _ => trivial) ?_ ?_⟩
    · exact ⟨_, alphaL, [], rfl, k2, D2, hl2, hf2, h26, rfl, fun c hc => hc, fun c hc => (by cases hc)⟩
    · rintro i x σ H3 H4 hi ⟨x4, lft, cs, rfl, k3, D3, hl3, hf3, e1, e2, al, ac⟩ ⟨e34, ex⟩
      have e43 := e34.symm
      subst e43
      have hi2 : i < n := by omega
      refine ⟨_, rfl, .inl ⟨rfl, _, .inl (.inl hf3)⟩, _, rfl, .inl ⟨rfl, _, .inl (.inl hl3)⟩, _, rfl, _, rfl, l, _, rfl, .inl (.inl (.inl hl3)), d, a1, a2, lft.length, by rw [sgs_len]; rfl, D3, by omega, by omega, fun H5 k k5 D5 hk => ?_⟩
      have hl5 := k5.kp _ _ hl3 (D.ne0 nl)
      have hf5 := k5.kp _ _ hf3 (D.ne0 nf0)
      have hg := List.getElem?_eq_getElem hk
      refine ⟨l, _, (k : Int), k, .str (tx [lft[k]]), rfl, rfl, hl5, by omega, by omega, ?_, ?_, ?_⟩
      · rw [sgs_len]
        exact seqIndex_at (by omega) (by omega)
      · unfold sgs
        rw [List.getElem?_map, hg]
        rfl
      have ee : (sgs lft).eraseIdx k = sgs (lft.eraseIdx k) := map_erase _ _ _
      rw [ee]
      have hf6 : (upd H5 l (.lst (sgs (lft.eraseIdx k)))) f = some (.lst (sgs cs)) := (upd_ne nfl).trans hf5
      refine ⟨f, _, _, rfl, rfl, hf6, by rw [sgs_len]; omega, ?_⟩
      have k6 := (k3.trans k5).bk (o := .lst (sgs (lft.eraseIdx k))) nl hl5 (fun z => z)
      have D6 : Draw (upd H5 l (.lst (sgs (lft.eraseIdx k)))) d a1 a2 := D5.bk D nl hl5 (fun z => z)
      have D7 := D6.bk (o := .lst (sgs cs ++ [.str (tx [lft[k]])])) D nf0 hf6 (fun z => z)
      refine ⟨_, lft.eraseIdx k, cs ++ [lft[k]], rfl, k6.bk nf0 hf6 (fun z => z), D7, (upd_ne nfl.symm).trans upd_same, ?_, ?_, ?_, fun c hc => al c (List.mem_of_mem_eraseIdx hc), fun c hc => ?_⟩
      · rw [upd_same, sgs_snoc]
      · rw [List.length_eraseIdx_of_lt hk]
        omega
      · rw [List.length_append, e2]
        rfl
      · rcases List.mem_append.mp hc with y | y
        · exact ac c y
        · rw [List.mem_singleton.mp y]
          exact al _ (List.getElem_mem hk)
    · rintro σ H3 ⟨x4, lft, cs, rfl, k3, D3, hl3, hf3, e1, e2, al, ac⟩
      exact ⟨_, rfl, q H3 f cs k3 D3 nf0 hf3 (by omega) ac⟩
/-! ### l.string -/
abbrev NLString : List Str := ["_law_draw", "_law_letters_here", "_law_least", "_law_most", "_law_turn"]
theorem scLString : FnScope NLString ["_law_draw", "_law_letters_here", "_law_least", "_law_most"] (defScope sLString) := ⟨rfl, rfl, rfl, by decide +kernel, rfl, by decide +kernel, by decide +kernel⟩
def spLString (P : Program) (w : World) (K : PySem.W.Frag) : Sp := fun vs H Q _ => ∃ (d a1 a2 s : Addr) (zs : List Nat) (lo hi : Nat), vs = [.ref d, .ref s, .int (lo : Int), .int (hi : Int)] ∧ Draw H d a1 a2 ∧ H s = some (.lst (sgs zs)) ∧ s ≠ a1 ∧ 1 ≤ zs.length ∧ zs.length ≤ 1000 ∧ lo ≤ hi ∧ hi ≤ 100 ∧
  ∀ H' t, Kp (dA d a1) H H' → Draw H' d a1 a2 → lo ≤ t.length → t.length ≤ hi → (∀ c ∈ t, c ∈ zs) → Q (.str (tx t)) H'
theorem oLString (T : Txt K mg) : Cal P w K mg base 3 "_law_string" (spLString P w K) [] := by
  refine calD (dLString_fn T) (gLString T) scLString (fun vs H Q E h => ?_) (fun _ _ _ _ _ _ us hl => match us, hl with | [_, _, _, _], _ => rfl) (fun cdv A outer s H vs Q E hr h => ?_)
  · obtain ⟨d, a1, a2, s, zs, lo, hi, rfl, _⟩ := h
    rfl
  · obtain ⟨d, a1, a2, s, zs, lo, hi, rfl, D, hs, ns1, z1, z2, hlh, hh, q⟩ := h
    refine ⟨_, PSs.nox (pss_one (ps_ret (kJoin K rfl pe_str (pe_lc (own := [("_law_turn", 4)]) (g := gName 4) rfl scLString.nd (pi_range1 (by rfl) (f_range T) (pa_cons (pe_op op_add (pv 2) (pe_c (oLTake T) hr (by decide) (by rfl) (pa_cons (pv 0) (pa_cons (pe_op op_add (pe_op op_sub (pv 3) (pv 2)) pe_int) pa_nil)))) pa_nil)) (blkOk_by (own := [("_law_turn", 4)]) (N := NLString) (sc := defScope sLString) (by decide +kernel)) (fun _ _ _ _ _ => (pg_name (i := 4) scLString.nd rfl (.inl rfl))) (fun _ _ _ _ _ => pts_nil) (fun _ _ _ _ _ => (pe_c (oLPick T) hr (by decide) (by rfl) (pa_cons (pv 0) (pa_cons (pv 1) pa_nil)))))))), ?_⟩
    have hsz : sizeLine = 16777216 := sizeLine_eq
    have nsd : ¬ dA d a1 s := by
      obtain ⟨ls, cs, r, t, m, DN⟩ := id D
      rintro (z | z)
      · rw [z, DN.hd] at hs; cases hs
      · exact ns1 z
    refine ⟨⟨_, rfl⟩, _, rfl, _, rfl, _, rfl, _, rfl, _, _, rfl, rfl, _, _, rfl, rfl, d, a1, a2, hi - lo + 1, ?_, D, by omega, by omega, fun H1 k k1 D1 hk => ?_⟩
    · show [V.ref d, V.int ((hi : Int) - (lo : Int) + 1)] = _
      rw [show ((hi - lo + 1 : Nat) : Int) = (hi : Int) - (lo : Int) + 1 by omega]
    have hs1 := k1.kp _ _ hs nsd
    have hcount : ((lo : Int) + (k : Int)).toNat = lo + k := by omega
    refine ⟨_, _, rfl, rfl, _, rfl, by omega, by omega, fun D0 hD0 => lc_map walk_range (dA d a1) (fun i ys H2 => ∃ t, ys = sgs t ∧ t.length = i ∧ (∀ c ∈ t, c ∈ zs) ∧ Draw H2 d a1 a2) hD0 (D1.ne0 hD0) (by omega) (fun _ _ _ _ _ _ => trivial) ⟨[], rfl, rfl, fun c hc => (by cases hc), D1.same (same_upd hD0)⟩ ?_ ?_⟩
    · rintro i x H2 H3 ys hi k2 ⟨t, rfl, ht, htz, D2⟩ ⟨e23, ex⟩ eD push
      have e32 := e23.symm
      subst e32
      refine ⟨rfl, _, rfl, _, rfl, d, a1, a2, s, sgs zs, rfl, D2, k2.kp _ _ hs1 nsd, ns1, by rw [sgs_len]; exact z1, by rw [sgs_len]; exact z2, fun H4 v k4 D4 hv => ?_⟩
      obtain ⟨c, hc, rfl⟩ := sgs_mem hv
      refine push _ _ k4 ⟨t ++ [c], (sgs_snoc ..).symm, by rw [List.length_append, ht]; rfl, fun e he => ?_, ?_⟩
      · rcases List.mem_append.mp he with y | y
        · exact htz e y
        · rw [List.mem_singleton.mp y]; exact hc
      · exact D4.bk D1 hD0 (k4.kp _ _ eD (D1.ne0 hD0)) (fun z => z)
    · rintro H2 ys k2 eD ⟨t, rfl, ht, htz, D2⟩
      rw [hcount] at ht
      refine ⟨_, D0, ((t.map fun c => [c]).map tx), rfl, rfl, .inl (.inl (.inl (by rw [← sgs_str]; exact eD))), by rw [sgs_sum]; show _ + _ * 0 ≤ _; omega, ?_⟩
      rw [join_sgs]
      exact q H2 t (k1.trans k2) D2 (by omega) (by omega) htz
/-! ### l.prices -/
abbrev NLPrices : List Str := ["_law_draw", "_law_some", "_law_turn"]
theorem scLPrices : FnScope NLPrices ["_law_draw"] (defScope sLPrices) := ⟨rfl, rfl, rfl, by decide +kernel, rfl, by decide +kernel, by decide +kernel⟩
def spLPrices (P : Program) (w : World) (K : PySem.W.Frag) : Sp := fun vs H Q _ => ∃ (d a1 a2 : Addr), vs = [.ref d] ∧ Draw H d a1 a2 ∧ ∀ H' t p, Kp (dA d a1) H H' → Draw H' d a1 a2 → H' t = some (.tup [.int p.x, .int p.y, .int p.wr, optI p.sw]) → PrOk p → Q (.ref t) H'
theorem oLPrices (T : Txt K mg) : Cal P w K mg base 3 "_law_prices" (spLPrices P w K) [] := by
  refine calD (dLPrices_fn T) (gLPrices T) scLPrices (fun vs H Q E h => ?_) (fun _ _ _ _ _ _ us hl => match us, hl with | [_], _ => rfl) (fun cdv A outer s H vs Q E hr h => ?_)
  · obtain ⟨d, a1, a2, rfl, _⟩ := h
    rfl
  · obtain ⟨d, a1, a2, rfl, D, q⟩ := h
    refine ⟨_, PSs.nox (pss_cons (ps_setLc (i := 1) (own := [("_law_turn", 2)]) (g := gName 2) rfl scLPrices.nd rfl rfl (sw_true rfl rfl rfl (by decide +kernel)) (pi_range1 (by rfl) (f_range T) (pa_cons pe_int pa_nil)) (blkOk_by (own := [("_law_turn", 2)]) (N := NLPrices) (sc := defScope sLPrices) (by decide +kernel)) (fun _ _ _ _ _ => (pg_name (i := 2) scLPrices.nd rfl (.inl rfl))) (fun _ _ _ _ _ => pts_nil) (fun _ _ _ _ _ => (pe_c (oLPick T) hr (by decide) (by rfl) (pa_cons (pv 0) (pa_cons (pe_lst (pa_cons pe_int (pa_cons pe_int (pa_cons pe_int (pa_cons pe_int (pa_cons pe_int (pa_cons pe_int pa_nil))))))) pa_nil)))))
       (pss_one (ps_ret (pe_op (kCatA K rfl) (pe_callTy (kTup K rfl) (by rfl) (f_tuple T) (by decide +kernel) (pa_cons (pv 1) pa_nil)) (pe_tup (pa_cons (pe_c (oLPick T) hr (by decide) (by rfl) (pa_cons (pv 0) (pa_cons (pe_lst (pa_cons pe_non (pa_cons pe_non (pa_cons pe_int (pa_cons pe_int (pa_cons pe_int (pa_cons pe_int pa_nil))))))) pa_nil))) pa_nil)))))), ?_⟩
    have hsz : sizeLine = 16777216 := sizeLine_eq
    refine ⟨3, rfl, by decide, by decide, fun D0 hD0 => lc_map walk_range (dA d a1) (fun i ys H2 => ∃ ps : List Int, ys = ps.map V.int ∧ ps.length = i ∧ (∀ x ∈ ps, 1 ≤ x ∧ x ≤ 3) ∧ Draw H2 d a1 a2) hD0 (D.ne0 hD0) (by decide) (fun _ _ _ _ _ _ => trivial) ⟨[], rfl, rfl, fun c hc => (by cases hc), D.same (same_upd hD0)⟩ ?_ ?_⟩
    · rintro i x H2 H3 ys hi k2 ⟨ps, rfl, ht, htz, D2⟩ ⟨e23, ex⟩ eD push
      have e32 := e23.symm
      subst e32
      refine ⟨rfl, _, rfl, by show 6 ≤ sizeLine; omega, fun l nl => ⟨d, a1, a2, l, _, rfl, D2.same (same_upd nl), upd_same, fun z => D2.ne0 nl (.inr z), by decide, by decide, fun H4 v k4 D4 hv => ?_⟩⟩
      obtain ⟨z, rfl, z1, z2⟩ : ∃ z : Int, v = .int z ∧ 1 ≤ z ∧ z ≤ 3 := by
        simp only [List.mem_cons, List.not_mem_nil, or_false] at hv
        rcases hv with rfl | rfl | rfl | rfl | rfl | rfl <;> exact ⟨_, rfl, by decide, by decide⟩
      have k24 : Kp (dA d a1) H2 H4 := (Kp.new nl).trans k4
      refine push _ _ k24 ⟨ps ++ [z], by rw [List.map_append]; rfl, by rw [List.length_append, ht]; rfl, fun e he => ?_, ?_⟩
      · rcases List.mem_append.mp he with y | y
        · exact htz e y
        · rw [List.mem_singleton.mp y]; exact ⟨z1, z2⟩
      · exact D4.bk D hD0 (k24.kp _ _ eD (D.ne0 hD0)) (fun z => z)
    · rintro H2 ys k2 eD ⟨ps, rfl, ht, htz, D2⟩
      obtain ⟨x, y, z, rfl⟩ : ∃ x y z, ps = [x, y, z] := by
        match ps, ht with
        | [x, y, z], _ => exact ⟨x, y, z, rfl⟩
      have hx := htz x (by simp)
      have hy := htz y (by simp)
      have hz := htz z (by simp)
      refine ⟨_, rfl, D0, _, rfl, .inl ⟨.inl (.inl eD), fun t nt => ?_⟩⟩
      have ht3 : (upd H2 t (.tup ([x, y, z].map V.int))) t = some (.tup [.int x, .int y, .int z]) := upd_same
      have k3 := k2.trans (Kp.new (o := .tup ([x, y, z].map V.int)) nt)
      have D3 := D2.same (same_upd (o := .tup ([x, y, z].map V.int)) nt)
      generalize (upd H2 t (.tup ([x, y, z].map V.int))) = H3 at ht3 k3 D3 ⊢
      refine ⟨_, rfl, by show 6 ≤ sizeLine; omega, fun l nl => ⟨d, a1, a2, l, _, rfl, D3.same (same_upd nl), upd_same, fun z => D3.ne0 nl (.inr z), by decide, by decide, fun H4 v k4 D4 hv => ?_⟩⟩
      obtain ⟨o, rfl, ho⟩ : ∃ o : Option Int, v = optI o ∧ ∀ s, o = some s → 1 ≤ s ∧ s ≤ 9 := by
        simp only [List.mem_cons, List.not_mem_nil, or_false] at hv
        rcases hv with rfl | rfl | rfl | rfl | rfl | rfl
        · exact ⟨none, rfl, fun s e => by cases e⟩
        · exact ⟨none, rfl, fun s e => by cases e⟩
        all_goals exact ⟨some _, rfl, fun s e => by cases e; decide⟩
      have k34 : Kp (dA d a1) H3 H4 := (Kp.new nl).trans k4
      have ht4 := k34.im.tup ht3
      refine ⟨by show 1 ≤ sizeLine; omega, fun t2 nt2 => ⟨t, t2, [.int x, .int y, .int z], [optI o], rfl, rfl, .inl (.inl (same_upd nt2 _ _ ht4)), .inl (.inl upd_same), by show 4 ≤ sizeLine; omega, fun z => (by cases z), fun _ z => (by cases z), fun _ _ T nT => ?_⟩⟩
      refine q _ T ⟨x, y, z, o⟩ ((k3.trans k34).trans ((Kp.new nt2).trans (Kp.new nT))) (D4.same ((same_upd nt2).trans (same_upd nT))) upd_same ⟨⟨hx.1, by show x ≤ 9; omega⟩, ⟨hy.1, by show y ≤ 9; omega⟩, ⟨hz.1, by show z ≤ 9; omega⟩, ho⟩
end
end Mw


set_option Elab.async false
set_option linter.all false
set_option maxRecDepth 100000
set_option maxHeartbeats 4000000
set_option pp.maxSteps 600
set_option pp.deepTerms false
namespace Mw
open PySem PySem.Spec PyProof.Rows L2
open C8 (Cal pe_c Mak pe_mk)
/-! ### cases -/
def csKV (lt pt en : Addr) : List (Key × V) := [(Sum.inr "letters", .ref lt), (Sum.inr "prices", .ref pt), (Sum.inr "entries", .ref en)]
section
variable {lt pt en : Addr}
theorem csG1 : valV (csKV lt pt en) (Sum.inr "letters") = some (.ref lt) := by rfl
theorem csG2 : valV (csKV lt pt en) (Sum.inr "prices") = some (.ref pt) := by rfl
theorem csG3 : valV (csKV lt pt en) (Sum.inr "entries") = some (.ref en) := by rfl
theorem csM : mergeK [] (csKV lt pt en) = csKV lt pt en := by rfl
theorem csP {e2 : Addr} : putK (csKV lt pt en) (Sum.inr "entries") (.ref e2) = csKV lt pt e2 := by rfl
end
def PrT (H : Hp) (t : Addr) (p : Pr) : Prop := H t = some (.tup [.int p.x, .int p.y, .int p.wr, optI p.sw])
structure CaseAt (H : Hp) (c lt pt en : Addr) (cs : List Nat) (p : Pr) (es : List Ent) : Prop where
  hc : H c = some (.dK (csKV lt pt en))
  hl : H lt = some (.lst (sgs cs))
  hp : PrT H pt p
  he : ∃ vs, H en = some (.lst vs) ∧ EntsV H vs es
  abc : ∀ c ∈ cs, c ∈ alphaL
  few : 1 ≤ cs.length ∧ cs.length ≤ 5
  pok : PrOk p
  eok : EntsOk es
section
variable {H H' : Hp} {c lt pt en : Addr} {cs : List Nat} {p : Pr} {es : List Ent}
theorem CaseAt.kp {A : Addr → Prop} (h : CaseAt H c lt pt en cs p es) (k : Kp A H H') (n1 : ¬ A c) (n2 : ¬ A lt) (n3 : ¬ A en) : CaseAt H' c lt pt en cs p es := by
  obtain ⟨vs, e1, e2⟩ := h.he
  exact ⟨k.kp _ _ h.hc n1, k.kp _ _ h.hl n2, k.im.tup h.hp, ⟨vs, k.kp _ _ e1 n3, e2.im k.im⟩, h.abc, h.few, h.pok, h.eok⟩
theorem CaseAt.same (h : CaseAt H c lt pt en cs p es) (s : Same H H') : CaseAt H' c lt pt en cs p es := h.kp (Kp.same (A := noA) s) id id id
theorem CaseAt.gL (h : CaseAt H c lt pt en cs p es) : DGet H c (.str "letters") (some (.ref lt)) := dget_at (.inr "letters") h.hc csG1
theorem CaseAt.gP (h : CaseAt H c lt pt en cs p es) : DGet H c (.str "prices") (some (.ref pt)) := dget_at (.inr "prices") h.hc csG2
theorem CaseAt.gE (h : CaseAt H c lt pt en cs p es) : DGet H c (.str "entries") (some (.ref en)) := dget_at (.inr "entries") h.hc csG3
end
/-- a case is none of the draw's -/
structure Far (d a1 c lt en : Addr) : Prop where
  c : ¬ dA d a1 c
  l : ¬ dA d a1 lt
  e : ¬ dA d a1 en
theorem CaseAt.draw {H H' : Hp} {c lt pt en d a1 : Addr} {cs : List Nat} {p : Pr} {es : List Ent} (h : CaseAt H c lt pt en cs p es) (f : Far d a1 c lt en) (k : Kp (dA d a1) H H') : CaseAt H' c lt pt en cs p es := h.kp k f.c f.l f.e
section
variable {P : Program} {w : World} {K : PySem.W.Frag} {mg : Str → Option Value} {base : Heap}
/-! ### l.slips -/
abbrev NLSlips : List Str := ["_law_prices_here"]
theorem scLSlips : FnScope NLSlips ["_law_prices_here"] (defScope sLSlips) := ⟨rfl, rfl, rfl, by decide +kernel, rfl, by decide +kernel, by decide +kernel⟩
def spLSlips (P : Program) (w : World) (K : PySem.W.Frag) : Sp := fun vs H Q _ => ∃ (t : Addr) (p : Pr), vs = [.ref t] ∧ PrT H t p ∧ PrOk p ∧ ∀ H' a, Same H H' → SlipsAt K H' a p → Q (.ref a) H'
theorem oLSlips (T : Txt K mg) : Cal P w K mg base 5 "_law_slips" (spLSlips P w K) [] := by
  obtain ⟨fds, slF, mvs, slKb⟩ := fnSlipsInit (P := P) (w := w) (base := base) T
  refine calD (dLSlips_fn T) (gLSlips T) scLSlips (fun vs H Q E h => ?_) (fun _ _ _ _ _ _ us hl => match us, hl with | [_], _ => rfl) (fun cdv A outer s H vs Q E hr h => ?_)
  · obtain ⟨t, p, rfl, _⟩ := h
    rfl
  · obtain ⟨t, p, rfl, ht, ok, q⟩ := h
    refine ⟨_, PSs.nox (pss_one (ps_ret (pe_makeK0 (mkrSlips T) slF hr (by rfl) (gSlips T) slKb pass0 (pk_cons (pe_ix (kIxT K rfl) (pv 0) pe_int (fun _ _ => rfl)) (pk_cons (pe_ix (kIxT K rfl) (pv 0) pe_int (fun _ _ => rfl)) (pk_cons (pe_ix (kIxT K rfl) (pv 0) pe_int (fun _ _ => rfl)) (pk_cons (pe_ix (kIxT K rfl) (pv 0) pe_int (fun _ _ => rfl)) pk_nil))))))), ?_⟩
    refine ⟨_, rfl, t, _, _, _, rfl, rfl, .inl (.inl ht), rfl, _, rfl, t, _, _, _, rfl, rfl, .inl (.inl ht), rfl, _, rfl, t, _, _, _, rfl, rfl, .inl (.inl ht), rfl, _, rfl, t, _, _, _, rfl, rfl, .inl (.inl ht), rfl, rfl, rfl, fun x dx nx ndx ndxx => ?_⟩
    refine ⟨x, dx, p, rfl, ok, upd_same, fun H1 k1 h1 => ⟨rfl, ?_⟩⟩
    refine q H1 x (fun b o e => k1 b o (ne_of_none e nx) ?_) ⟨dx, h1⟩
    rw [upd_ne (ne_of_none e nx), upd_ne (ne_of_none e ndx)]
    exact e
/-! ### l.speller -/
abbrev NLSpeller : List Str := ["_law_case_here"]
theorem scLSpeller : FnScope NLSpeller ["_law_case_here"] (defScope sLSpeller) := ⟨rfl, rfl, rfl, by decide +kernel, rfl, by decide +kernel, by decide +kernel⟩
def spLSpeller (P : Program) (w : World) (K : PySem.W.Frag) : Sp := fun vs H Q _ => ∃ (c lt pt en : Addr) (cs : List Nat) (p : Pr) (es : List Ent), vs = [.ref c] ∧ CaseAt H c lt pt en cs p es ∧ ∀ H' a, Same H H' → SpellerAt K H' a p es → Q (.ref a) H'
theorem oLSpeller (T : Txt K mg) : Cal P w K mg base 7 "_law_speller" (spLSpeller P w K) [] := by
  refine calD (dLSpeller_fn T) (gLSpeller T) scLSpeller (fun vs H Q E h => ?_) (fun _ _ _ _ _ _ us hl => match us, hl with | [_], _ => rfl) (fun cdv A outer s H vs Q E hr h => ?_)
  · obtain ⟨c, lt, pt, en, cs, p, es, rfl, _⟩ := h
    rfl
  · obtain ⟨c, lt, pt, en, cs, p, es, rfl, C, q⟩ := h
    obtain ⟨vs, hv1, hv2⟩ := C.he
    have hu := hu_of hr
    refine ⟨_, PSs.nox (pss_one (ps_ret (pe_mk (makSpeller T) hr (by decide) (by rfl) (pa_cons (pe_dget hu (pv 0) pe_str (fun _ _ => rfl)) (pa_cons (pe_c (oLSlips T) hr (by decide) (by rfl) (pa_cons (pe_dget hu (pv 0) pe_str (fun _ _ => rfl)) pa_nil)) pa_nil))))), ?_⟩
    refine ⟨_, rfl, c, _, rfl, C.gE, _, rfl, c, _, rfl, C.gP, pt, p, rfl, C.hp, C.pok, fun H1 a s1 hs1 => ?_⟩
    intro x dx nx ndx ndxx
    have s2 : Same H1 (upd (upd H1 dx (.own x)) x (.ins (He.ga K "Speller") dx [])) := fun b o e => by rw [upd_ne (ne_of_none e nx), upd_ne (ne_of_none e ndx)]; exact e
    have s02 := s1.trans s2
    refine ⟨x, dx, en, a, vs, es, rfl, s02 _ _ hv1, hv2.im (Imm.of_same s02), C.eok, upd_same, fun H3 e k3 h3 he3 => ⟨rfl, ?_⟩⟩
    have s13 : Same H1 H3 := fun b o e => k3 b o (ne_of_none e nx) (s2 _ _ e)
    have s03 := s1.trans s13
    exact q H3 x s03 ⟨dx, e, a, vs, h3, he3, hv2.im (Imm.of_same s03), hs1.im (Imm.of_same s13)⟩
/-! ### l.listener -/
abbrev NLListener : List Str := ["_law_case_here", "_law_limit_here"]
theorem scLListener : FnScope NLListener ["_law_case_here", "_law_limit_here"] (defScope sLListener) := ⟨rfl, rfl, rfl, by decide +kernel, rfl, by decide +kernel, by decide +kernel⟩
def spLListener (P : Program) (w : World) (K : PySem.W.Frag) : Sp := fun vs H Q _ => ∃ (c lt pt en : Addr) (cs : List Nat) (p : Pr) (es : List Ent) (lim : Int), vs = [.ref c, .int lim] ∧ CaseAt H c lt pt en cs p es ∧ 0 ≤ lim ∧ lim ≤ 9999 ∧ ∀ H' a, Same H H' → ListenerAt K H' a ⟨p, es, lim⟩ → Q (.ref a) H'
theorem oLListener (T : Txt K mg) : Cal P w K mg base 8 "_law_listener" (spLListener P w K) [] := by
  refine calD (dLListener_fn T) (gLListener T) scLListener (fun vs H Q E h => ?_) (fun _ _ _ _ _ _ us hl => match us, hl with | [_, _], _ => rfl) (fun cdv A outer s H vs Q E hr h => ?_)
  · obtain ⟨c, lt, pt, en, cs, p, es, lim, rfl, _⟩ := h
    rfl
  · obtain ⟨c, lt, pt, en, cs, p, es, lim, rfl, C, l0, l9, q⟩ := h
    refine ⟨_, PSs.nox (pss_one (ps_ret (pe_mk (makListener T) hr (by decide) (by rfl) (pa_cons (pe_c (oLSpeller T) hr (by decide) (by rfl) (pa_cons (pv 0) pa_nil)) (pa_cons (pv 1) pa_nil))))), ?_⟩
    refine ⟨_, rfl, c, lt, pt, en, cs, p, es, rfl, C, fun H1 a s1 ha => ⟨_, rfl, ?_⟩⟩
    intro x dx nx ndx ndxx
    have s2 : Same H1 (upd (upd H1 dx (.own x)) x (.ins (He.ga K "Listener") dx [])) := fun b o e => by rw [upd_ne (ne_of_none e nx), upd_ne (ne_of_none e ndx)]; exact e
    refine ⟨x, dx, a, lim, rfl, l0, l9, upd_same, fun H3 k3 h3 => ⟨rfl, ?_⟩⟩
    have s13 : Same H1 H3 := fun b o e => k3 b o (ne_of_none e nx) (s2 _ _ e)
    exact q H3 x (s1.trans s13) ⟨dx, a, h3, ha.im (Imm.of_same s13)⟩
/-! ### l.limit -/
abbrev NLLimit : List Str := ["_law_draw"]
theorem scLLimit : FnScope NLLimit ["_law_draw"] (defScope sLLimit) := ⟨rfl, rfl, rfl, by decide +kernel, rfl, by decide +kernel, by decide +kernel⟩
def spLLimit (P : Program) (w : World) (K : PySem.W.Frag) : Sp := fun vs H Q _ => ∃ (d a1 a2 : Addr), vs = [.ref d] ∧ Draw H d a1 a2 ∧ ∀ H' (z : Int), Kp (dA d a1) H H' → Draw H' d a1 a2 → 0 ≤ z → z ≤ 9999 → Q (.int z) H'
theorem oLLimit (T : Txt K mg) : Cal P w K mg base 3 "_law_limit" (spLLimit P w K) [] := by
  refine calD (dLLimit_fn T) (gLLimit T) scLLimit (fun vs H Q E h => ?_) (fun _ _ _ _ _ _ us hl => match us, hl with | [_], _ => rfl) (fun cdv A outer s H vs Q E hr h => ?_)
  · obtain ⟨d, a1, a2, rfl, _⟩ := h
    rfl
  · obtain ⟨d, a1, a2, rfl, D, q⟩ := h
    refine ⟨_, PSs.nox (pss_one (ps_ret (pe_c (oLPick T) hr (by decide) (by rfl) (pa_cons (pv 0) (pa_cons (pe_lst (pa_cons pe_int (pa_cons pe_int (pa_cons pe_int (pa_cons pe_int (pa_cons pe_int (pa_cons pe_int (pa_cons pe_int (pa_cons pe_int (pa_cons pe_int (pa_cons pe_int pa_nil))))))))))) pa_nil))))), ?_⟩
    have hsz : sizeLine = 16777216 := sizeLine_eq
    refine ⟨_, rfl, by show 10 ≤ sizeLine; omega, fun l nl => ⟨d, a1, a2, l, _, rfl, D.same (same_upd nl), upd_same, fun z => D.ne0 nl (.inr z), by decide, by decide, fun H4 v k4 D4 hv => ?_⟩⟩
    obtain ⟨z, rfl, z1, z2⟩ : ∃ z : Int, v = .int z ∧ 0 ≤ z ∧ z ≤ 9999 := by
      simp only [List.mem_cons, List.not_mem_nil, or_false] at hv
      rcases hv with rfl | rfl | rfl | rfl | rfl | rfl | rfl | rfl | rfl | rfl <;> exact ⟨_, rfl, by decide, by decide⟩
    exact q H4 z ((Kp.new nl).trans k4) D4 z1 z2
/-! ### l.power -/
abbrev NLPower : List Str := ["_law_base", "_law_number", "_law_found", "_law_turn"]
theorem scLPower : FnScope NLPower ["_law_base", "_law_number"] (defScope sLPower) := ⟨rfl, rfl, rfl, by decide +kernel, rfl, by decide +kernel, by decide +kernel⟩
def spLPower (P : Program) (w : World) (K : PySem.W.Frag) : Sp := fun vs H Q _ => ∃ (b n : Nat), vs = [.int (b : Int), .int (n : Int)] ∧ b ≤ 100 ∧ n ≤ 1000 ∧ Q (.int ((b ^ n : Nat) : Int)) H
theorem oLPower (T : Txt K mg) : Cal P w K mg base 1 "_law_power" (spLPower P w K) [] := by
  refine calD (dLPower_fn T) (gLPower T) scLPower (fun vs H Q E h => ?_) (fun _ _ _ _ _ _ us hl => match us, hl with | [_, _], _ => rfl) (fun cdv A outer s H vs Q E hr h => ?_)
  · obtain ⟨b, n, rfl, _⟩ := h
    rfl
  · obtain ⟨b, n, rfl, hb, hn, q⟩ := h
    refine ⟨_, PSs.nox (pss_cons (ps_set (i := 2) scLPower.nd rfl (.inl rfl) pe_int)
       (pss_cons (ps_for PassesOwn.never rfl (pi_range1 (by rfl) (f_range T) (pa_cons (pv 1) pa_nil)) (pg_name (i := 3) scLPower.nd rfl (.inl rfl))
       (pss_one (ps_set (i := 2) scLPower.nd rfl (.inl rfl) (pe_op op_mul (pv 2) (pv 0)))))
       (pss_one (ps_ret (pv 2))))), ?_⟩
    have hcount : ((n : Nat) : Int).toNat = n := by omega
    refine ⟨_, rfl, _, rfl, by omega, by omega, for_it walk_range (fun i σ H2 => ∃ x3, H2 = H ∧ σ = [some (.int (b : Int)), some (.int (n : Int)), some (.int ((b ^ i : Nat) : Int)), x3]) ⟨_, rfl, rfl⟩ (fun _ _ _ _ _ => trivial) ?_ ?_⟩
    · rintro i x σ H2 H3 hi ⟨x3, rfl, rfl⟩ ⟨rfl, ex⟩
      refine ⟨_, rfl, _, rfl, _, _, rfl, rfl, .inr ⟨by omega, by omega⟩, some x, rfl, ?_⟩
      rw [Nat.pow_succ, Int.natCast_mul]
      rfl
    · rintro σ H2 ⟨x3, rfl, rfl⟩
      rw [hcount]
      exact ⟨_, rfl, q⟩
end
end Mw


set_option Elab.async false
set_option linter.all false
set_option maxRecDepth 100000
set_option maxHeartbeats 4000000
set_option pp.maxSteps 600
set_option pp.deepTerms false
namespace Mw
open PySem PySem.Spec PyProof.Rows L2
open C8 (Cal pe_c Mak pe_mk)
theorem sgs_txs (l : List Nat) : sgs l = txs (l.map fun c => [c]) := by
  unfold sgs txs
  rw [List.map_map]
  rfl
theorem sgs_flat (l : List Nat) : (sgs l).all flatV = true := by rw [sgs_txs]; exact txs_flat _
theorem inV_sgs (c : Nat) (l : List Nat) : inV (.str (tx [c])) (sgs l) = decide (c ∈ l) := by
  rw [sgs_txs, inV_txs]
  have : ([c] ∈ l.map fun c => [c]) ↔ c ∈ l := ⟨fun h => by
    obtain ⟨x, hx, e⟩ := List.mem_map.mp h
    rw [← List.head_eq_of_cons_eq e]
    exact hx, fun h => List.mem_map.mpr ⟨c, h, rfl⟩⟩
  by_cases z : c ∈ l
  · rw [decide_eq_true z, decide_eq_true (this.mpr z)]
  · rw [decide_eq_false z, decide_eq_false fun y => z (this.mp y)]
theorem last_sgs {l : List Nat} (h : l ≠ []) : atI (sgs l) (-1) = some (.str (tx [l.getLast h])) := by
  have e : sgs l = sgs l.dropLast ++ [.str (tx [l.getLast h])] := by
    rw [← sgs_snoc, List.dropLast_concat_getLast]
  rw [e, atI_last]
section
variable {P : Program} {w : World} {K : PySem.W.Frag} {mg : Str → Option Value} {base : Heap}
/-! ### l.other_letter -/
abbrev NLOtherLetter : List Str := ["_law_case_here", "_law_letter"]
theorem scLOtherLetter : FnScope NLOtherLetter ["_law_case_here"] (defScope sLOtherLetter) := ⟨rfl, rfl, rfl, by decide +kernel, rfl, by decide +kernel, by decide +kernel⟩
def spLOtherLetter (P : Program) (w : World) (K : PySem.W.Frag) : Sp := fun vs H Q _ => ∃ (c lt pt en : Addr) (cs : List Nat) (p : Pr) (es : List Ent), vs = [.ref c] ∧ CaseAt H c lt pt en cs p es ∧ ∀ H' o, Same H H' → o ∈ alphaL → Q (.str (tx [o])) H'
theorem oLOtherLetter (T : Txt K mg) : Cal P w K mg base 1 "_law_other_letter" (spLOtherLetter P w K) [] := by
  refine calD (dLOtherLetter_fn T) (gLOtherLetter T) scLOtherLetter (fun vs H Q E h => ?_) (fun _ _ _ _ _ _ us hl => match us, hl with | [_], _ => rfl) (fun cdv A outer s H vs Q E hr h => ?_)
  · obtain ⟨c, lt, pt, en, cs, p, es, rfl, _⟩ := h
    rfl
  · obtain ⟨c, lt, pt, en, cs, p, es, rfl, C, q⟩ := h
    have hu := hu_of hr
    refine ⟨_, PSs.nox (pss_one (ps_ret (pe_ix (kIxL K rfl) (pe_lc (own := [("_law_letter", 1)]) (g := gName 1) rfl scLOtherLetter.nd (pi_str pe_str) (blkOk_by (own := [("_law_letter", 1)]) (N := NLOtherLetter) (sc := defScope sLOtherLetter) (by decide +kernel)) (fun _ _ _ _ _ => (pg_name (i := 1) scLOtherLetter.nd rfl (.inl rfl))) (fun _ _ _ _ _ => (pts_one (pt_cmpR (kNotIn K rfl) (pv 1) (pe_dget hu (pv 0) pe_str (fun _ _ => rfl)) (by rfl)))) (fun _ _ _ _ _ => (pv 1))) (pe_un un_neg pe_int) (fun _ _ => rfl)))), ?_⟩
    have hsz : sizeLine = 16777216 := sizeLine_eq
    have lsz : ("abcdefghijklmnopqrstuvwxyz" : Str).cps.size = 26 := by decide
    let f : Nat → Bool := fun x => decide (x ∉ cs)
    refine ⟨_, rfl, fun D hD => lc_gen walk_str noA (fun i ys H2 => ys = sgs ((alphaL.take i).filter f)) hD id (by omega) (fun _ _ _ _ _ _ => trivial) rfl ?_ ?_⟩
    · rintro i x H1 H2 ys hi k rfl ⟨e12, z, hz, rfl⟩ eD push skip
      have e21 := e12.symm
      subst e21
      have gi : alphaL[i]? = some z := by
        rw [← ltr_eq]
        simpa using hz
      have C1 := C.same k.toSame
      refine ⟨rfl, _, rfl, _, rfl, c, _, rfl, C1.gL, lt, _, rfl, .inl (.inl (.inl C1.hl)), rfl, sgs_flat _, _, rfl, ?_⟩
      show if (!inV (.str (tx [z])) (sgs cs)) = true then _ else _
      rw [inV_sgs]
      refine ite2 (fun e => ?_) (fun e => ?_)
      · have e2 : z ∉ cs := fun y => by rw [decide_eq_true y] at e; cases e
        refine ⟨_, rfl, push _ _ Kp.refl ?_⟩
        rw [List.take_add_one, gi]
        show _ = sgs (List.filter f (List.take i alphaL ++ [z]))
        rw [List.filter_append, show List.filter f [z] = [z] by simp [f, e2], sgs_snoc]
      · have e2 : z ∈ cs := by
          by_cases y : z ∈ cs
          · exact y
          · exact absurd (by rw [decide_eq_false y]; rfl) e
        refine skip _ Kp.refl ?_
        rw [List.take_add_one, gi]
        show _ = sgs (List.filter f (List.take i alphaL ++ [z]))
        rw [List.filter_append, show List.filter f [z] = [] by simp [f, e2], List.append_nil]
    · intro H1 ys k eD t
      subst t
      rw [List.take_of_length_le (by rw [lsz]; decide)] at eD
      have hne : alphaL.filter f ≠ [] := fun z => by
        have h1 : alphaL.length ≤ cs.length := nodup_len alphaL cs (pw_nodup alpha_lt) fun x hx => by
          by_cases y : x ∈ cs
          · exact y
          · have : x ∈ alphaL.filter f := List.mem_filter.mpr ⟨hx, decide_eq_true y⟩
            rw [z] at this
            cases this
        have h2 : alphaL.length = 26 := by decide
        have := C.few.2
        omega
      refine ⟨_, rfl, D, _, _, _, rfl, rfl, .inl (.inl eD), last_sgs hne, ?_⟩
      exact q H1 _ k.toSame (List.mem_filter.mp (List.getLast_mem hne)).1
/-! ### l.text -/
abbrev NLText : List Str := ["_law_draw", "_law_case_here", "_law_most"]
theorem scLText : FnScope NLText ["_law_draw", "_law_case_here", "_law_most"] (defScope sLText) := ⟨rfl, rfl, rfl, by decide +kernel, rfl, by decide +kernel, by decide +kernel⟩
def spLText (P : Program) (w : World) (K : PySem.W.Frag) : Sp := fun vs H Q _ => ∃ (d a1 a2 c lt pt en : Addr) (cs : List Nat) (p : Pr) (es : List Ent) (most : Nat), vs = [.ref d, .ref c, .int (most : Int)] ∧ Draw H d a1 a2 ∧ CaseAt H c lt pt en cs p es ∧ most ≤ 100 ∧
  ∀ H' t, Kp (dA d a1) H H' → Draw H' d a1 a2 → t.length ≤ most → (∀ x ∈ t, x ∈ alphaL) → Q (.str (tx t)) H'
theorem oLText (T : Txt K mg) : Cal P w K mg base 4 "_law_text" (spLText P w K) [] := by
  refine calD (dLText_fn T) (gLText T) scLText (fun vs H Q E h => ?_) (fun _ _ _ _ _ _ us hl => match us, hl with | [_, _, _], _ => rfl) (fun cdv A outer s H vs Q E hr h => ?_)
  · obtain ⟨d, a1, a2, c, lt, pt, en, cs, p, es, most, rfl, _⟩ := h
    rfl
  · obtain ⟨d, a1, a2, c, lt, pt, en, cs, p, es, most, rfl, D, C, hm, q⟩ := h
    have hu := hu_of hr
    refine ⟨_, PSs.nox (pss_one (ps_ret (pe_c (oLString T) hr (by decide) (by rfl) (pa_cons (pv 0) (pa_cons (pe_op op_cat (pe_op op_rep (pe_dget hu (pv 1) pe_str (fun _ _ => rfl)) pe_int) (pe_lst (pa_cons (pe_c (oLOtherLetter T) hr (by decide) (by rfl) (pa_cons (pv 1) pa_nil)) pa_nil))) (pa_cons pe_int (pa_cons (pv 2) pa_nil))))))), ?_⟩
    have hsz : sizeLine = 16777216 := sizeLine_eq
    have few := C.few
    have hsl := sgs_len cs
    refine ⟨_, rfl, _, rfl, c, _, rfl, C.gL, lt, _, _, rfl, rfl, C.hl, by decide, by decide, by rw [hsl]; show _ * 3 ≤ _; omega, fun l nl => ?_⟩
    have s1 := same_upd (o := .lst (List.replicate (3 : Int).toNat (sgs cs)).flatten) nl
    have hl1 : (upd H l (.lst (List.replicate (3 : Int).toNat (sgs cs)).flatten)) l = some (.lst (sgs (cs ++ cs ++ cs))) := by
      rw [upd_same]
      unfold sgs
      rw [List.map_append, List.map_append]
      show some (HO.lst (_ ++ (_ ++ (_ ++ [])))) = _
      rw [List.append_nil, List.append_assoc]
    generalize (upd H l (.lst (List.replicate (3 : Int).toNat (sgs cs)).flatten)) = H1 at s1 hl1 ⊢
    refine ⟨_, rfl, c, lt, pt, en, cs, p, es, rfl, C.same s1, fun H2 o s2 ho => ⟨by show 1 ≤ sizeLine; omega, fun l2 nl2 => ?_⟩⟩
    have s3 := same_upd (o := .lst [.str (tx [o])]) nl2
    refine ⟨l, l2, _, _, rfl, rfl, s3 _ _ (s2 _ _ hl1), upd_same, by rw [sgs_len]; simp; omega, fun l4 nl4 => ?_⟩
    have s04 : Same H _ := s1.trans (s2.trans (s3.trans (same_upd (o := .lst (sgs (cs ++ cs ++ cs) ++ [.str (tx [o])])) nl4)))
    refine ⟨_, rfl, d, a1, a2, l4, cs ++ cs ++ cs ++ [o], 0, most, rfl, D.same s04, by rw [upd_same, sgs_snoc], fun z => (D.same (s1.trans (s2.trans s3))).ne0 nl4 (.inr z), by simp; omega, by simp; omega, Nat.zero_le _, hm, fun H5 t k5 D5 h1 h2 h3 => ?_⟩
    refine q H5 t ((Kp.same s04).trans k5) D5 h2 fun x hx => ?_
    rcases List.mem_append.mp (h3 x hx) with y | y
    · rcases List.mem_append.mp y with y | y
      · exact C.abc x ((List.mem_append.mp y).elim id id)
      · exact C.abc x y
    · rw [List.mem_singleton.mp y]; exact ho
/-! ### l.alphabet -/
abbrev NLAlphabet : List Str := ["_law_case_here", "_law_used", "_law_entry", "_law_others", "_law_letter"]
theorem scLAlphabet : FnScope NLAlphabet ["_law_case_here"] (defScope sLAlphabet) := ⟨rfl, rfl, rfl, by decide +kernel, rfl, by decide +kernel, by decide +kernel⟩
def spLAlphabet (P : Program) (w : World) (K : PySem.W.Frag) : Sp := fun vs H Q _ => ∃ (c lt pt en : Addr) (cs : List Nat) (p : Pr) (es : List Ent), vs = [.ref c] ∧ CaseAt H c lt pt en cs p es ∧ ∀ H' r, Same H H' → H r = none → H' r = some (.lst (sgs (tried es))) → Q (.ref r) H'
theorem oLAlphabet (T : Txt K mg) : Cal P w K mg base 1 "_law_alphabet" (spLAlphabet P w K) [] := by
  refine calD (dLAlphabet_fn T) (gLAlphabet T) scLAlphabet (fun vs H Q E h => ?_) (fun _ _ _ _ _ _ us hl => match us, hl with | [_], _ => rfl) (fun cdv A outer s H vs Q E hr h => ?_)
  · obtain ⟨c, lt, pt, en, cs, p, es, rfl, _⟩ := h
    rfl
  · obtain ⟨c, lt, pt, en, cs, p, es, rfl, C, q⟩ := h
    obtain ⟨vs, hv1, hv2⟩ := C.he
    have ok := C.eok
    have hu := hu_of hr
    refine ⟨_, PSs.nox (pss_cons (ps_set (i := 1) scLAlphabet.nd rfl (.inr rfl) (pe_callB (cr_sortedSS rfl) (by rfl) (f_sorted T) (by decide +kernel) (pa_cons (pe_callTy (cr_setS rfl) (by rfl) (f_set T) (by decide +kernel) (pa_cons (kJoin K rfl pe_str (pe_lc (own := [("_law_entry", 2)]) (g := gName 2) rfl scLAlphabet.nd (kPiL K rfl (pe_dget hu (pv 0) pe_str (fun _ _ => rfl))) (blkOk_by (own := [("_law_entry", 2)]) (N := NLAlphabet) (sc := defScope sLAlphabet) (by decide +kernel)) (fun _ _ _ _ _ => (pg_name (i := 2) scLAlphabet.nd rfl (.inl rfl))) (fun _ _ _ _ _ => pts_nil) (fun _ _ _ _ _ => (pe_ix (kIxT K rfl) (pv 2) pe_int (fun _ _ => rfl))))) pa_nil)) pa_nil)))
       (pss_cons (ps_setLc (i := 3) (own := [("_law_letter", 4)]) (g := gName 4) rfl scLAlphabet.nd rfl rfl (sw_true rfl rfl rfl (by decide +kernel)) (pi_str pe_str) (blkOk_by (own := [("_law_letter", 4)]) (N := NLAlphabet) (sc := defScope sLAlphabet) (by decide +kernel)) (fun _ _ _ _ _ => (pg_name (i := 4) scLAlphabet.nd rfl (.inl rfl))) (fun _ _ _ _ _ => (pts_one (pt_cmpR (kNotIn K rfl) (pv 4) (pv 1) (by rfl)))) (fun _ _ _ _ _ => (pv 4)))
       (pss_one (ps_ret (pe_callB cr_sortedS (by rfl) (f_sorted T) (by decide +kernel) (pa_cons (pe_op op_cat (pv 1) (pe_slice (kSlL K rfl) (pv 3) po_none (po_some pe_int))) pa_nil)))))), ?_⟩
    have hsz : sizeLine = 16777216 := sizeLine_eq
    have hl : vs.length = es.length := Paired.length hv2
    refine ⟨⟨_, rfl⟩, _, rfl, c, _, rfl, C.gE, en, rfl, ⟨_, .inl (.inl hv1)⟩, fun D hD => lc_map (walk_list (xs := vs)) noA (fun i ys H => ys = txs ((wds es).take i)) hD id (by have := ok.few; omega) (fun i ys H _ k _ => .inl (.inl (k.toSame _ _ hv1))) rfl ?_ ?_⟩
    · rintro i x H1 H2 ys hi k rfl ⟨e12, hy⟩ eD push
      have e21 := e12.symm
      subst e21
      obtain ⟨e, he, ea, rfl, hea⟩ := Paired.getL hv2 hy
      refine ⟨rfl, _, rfl, ea, _, _, _, rfl, rfl, .inl (.inl (k.im.tup hea)), rfl, push _ _ Kp.refl ?_⟩
      have g1 : (wds es)[i]? = some e.1 := by rw [List.getElem?_map, he]; rfl
      rw [List.take_add_one, g1]
      unfold txs
      rw [List.map_append]
      rfl
    intro H1 ys k eD t
    subst t
    rw [List.take_of_length_le (by rw [List.length_map]; omega)] at eD
    have hf : (wds es).flatten = es.flatMap (·.1) := by rw [List.flatMap_def]
    have hl5 := ents_len (es := es) fun e he => (ok.all e he).hi
    have few := ok.few
    refine ⟨_, D, (wds es).map tx, rfl, rfl, .inl (.inl (.inl (by rw [List.map_map]; exact eD))), by rw [sum_lens, hf]; show _ + _ * 0 ≤ _; omega, ?_⟩
    rw [join_tx, hf]
    refine ⟨_, rfl, by omega, ents_abc ok, fun p' n np => ?_⟩
    refine ⟨p', _, n, rfl, upd_same, ents_abc ok, fun p2 np2 => ?_⟩
    have s2 : Same H (upd (upd H1 p' (SetSO w p' (memAt (es.flatMap (·.1)) (es.flatMap (·.1)).length) n)) p2 (.lst (sgs (abc es)))) := k.toSame.trans ((same_upd np).trans (same_upd np2))
    have hp2 : (upd (upd H1 p' (SetSO w p' (memAt (es.flatMap (·.1)) (es.flatMap (·.1)).length) n)) p2 (.lst (sgs (abc es)))) p2 = some (.lst (sgs (abc es))) := upd_same
    have lsz : ("abcdefghijklmnopqrstuvwxyz" : Str).cps.size = 26 := by decide
    let f : Nat → Bool := fun x => decide (x ∉ abc es)
    refine ⟨_, rfl, fun D2 hD2 => lc_gen walk_str noA (fun i ys H2 => ys = sgs ((alphaL.take i).filter f)) hD2 id (by omega) (fun _ _ _ _ _ _ => trivial) rfl ?_ ?_⟩
    · rintro i x H3 H4 ys hi k3 rfl ⟨e34, z, hz, rfl⟩ eD2 push skip
      have e43 := e34.symm
      subst e43
      have gi : alphaL[i]? = some z := by
        rw [← ltr_eq]
        simpa using hz
      have hp3 := k3.toSame _ _ hp2
      refine ⟨rfl, _, rfl, _, rfl, p2, _, rfl, .inl (.inl (.inl hp3)), rfl, sgs_flat _, _, rfl, ?_⟩
      show if (!inV (.str (tx [z])) (sgs (abc es))) = true then _ else _
      rw [inV_sgs]
      refine ite2 (fun e => ?_) (fun e => ?_)
      · have e2 : z ∉ abc es := fun y => by rw [decide_eq_true y] at e; cases e
        refine ⟨_, rfl, push _ _ Kp.refl ?_⟩
        rw [List.take_add_one, gi]
        show _ = sgs (List.filter f (List.take i alphaL ++ [z]))
        rw [List.filter_append, show List.filter f [z] = [z] by simp [f, e2], sgs_snoc]
      · have e2 : z ∈ abc es := by
          by_cases y : z ∈ abc es
          · exact y
          · exact absurd (by rw [decide_eq_false y]; rfl) e
        refine skip _ Kp.refl ?_
        rw [List.take_add_one, gi]
        show _ = sgs (List.filter f (List.take i alphaL ++ [z]))
        rw [List.filter_append, show List.filter f [z] = [] by simp [f, e2], List.append_nil]
    · intro H3 ys k3 eD3 t
      subst t
      rw [List.take_of_length_le (by rw [lsz]; decide)] at eD3
      have hp3 := k3.toSame _ _ hp2
      have hfl : (alphaL.filter f).length ≤ 26 := List.length_filter_le f alphaL
      refine ⟨_, rfl, _, rfl, 1, rfl, D2, _, rfl, .inl (.inl eD3), fun p4 np4 => ?_⟩
      have cut : cutV (sgs (alphaL.filter f)) none (some 1) = sgs ((alphaL.filter f).take 1) := by
        unfold cutV sgs
        rw [List.length_map, HT.sIx_none, show HT.sIx (alphaL.filter f).length (alphaL.filter f).length (some 1) = min 1 (alphaL.filter f).length from HT.sIx_nat (alphaL.filter f).length (alphaL.filter f).length 1, List.drop_zero, Nat.sub_zero, List.map_take]
        cases hh : alphaL.filter f with
        | nil => rfl
        | cons x r =>
          rw [show min 1 (x :: r).length = 1 by rw [List.length_cons]; omega]
      rw [cut]
      have s4 : Same H3 (upd H3 p4 (.lst (sgs ((alphaL.filter f).take 1)))) := same_upd np4
      have hp4 : (upd H3 p4 (.lst (sgs ((alphaL.filter f).take 1)))) p4 = some (.lst (sgs ((alphaL.filter f).take 1))) := upd_same
      have ho1 : ((alphaL.filter f).take 1).length ≤ 1 := by rw [List.length_take]; omega
      have hoc : ∀ c ∈ (alphaL.filter f).take 1, c ∈ alphaL ∧ c ∉ abc es := fun c hcm => by
        obtain ⟨h1, h2⟩ := List.mem_filter.mp (List.mem_of_mem_take hcm)
        exact ⟨h1, of_decide_eq_true h2⟩
      have etr : tried es = letters (abc es ++ (alphaL.filter f).take 1) := rfl
      generalize ho : (alphaL.filter f).take 1 = o at ho1 hoc s4 hp4 etr ⊢
      have h26 := abc_len es
      have hall : ∀ c ∈ abc es ++ o, c ∈ alphaL := fun c hcm => (List.mem_append.mp hcm).elim (abc_sub es c) fun z => (hoc c z).1
      have hnd : (abc es ++ o).Nodup := by
        rw [List.nodup_append]
        refine ⟨pw_nodup (letters_lt _), ?_, fun a ha b hb e => (hoc b hb).2 (e ▸ ha)⟩
        match o, ho1 with
        | [], _ => exact .nil
        | [x], _ => exact List.nodup_cons.mpr ⟨List.not_mem_nil, .nil⟩
      refine ⟨p2, p4, _, _, rfl, rfl, s4 _ _ hp3, hp4, by rw [sgs_len, sgs_len]; omega, fun p5 np5 => ?_⟩
      have s5 : Same _ (upd (upd H3 p4 (.lst (sgs o))) p5 (.lst (sgs (abc es) ++ sgs o))) := same_upd np5
      have hxs : sgs (abc es) ++ sgs o = ((abc es ++ o).map fun c => tx [c]).map V.str := by
        unfold sgs
        rw [List.map_append, List.map_append, List.map_map, List.map_map]
        rfl
      refine ⟨p5, (abc es ++ o).map fun c => tx [c], rfl, .inl (.inl ?_), by rw [List.length_map, List.length_append]; omega, fun ys p6 hperm hsrt np6 => ?_⟩
      · rw [upd_same]
        exact congrArg (fun z => some (HO.lst z)) hxs
      · have hys : ys = (letters (abc es ++ o)).map fun c => tx [c] := by
          refine sorted_letters hall hsrt ?_ fun k => ?_
          · refine hperm.nodup_iff.mpr ?_
            exact nodup_map (fun a b e => List.head_eq_of_cons_eq (tx_inj e)) hnd
          · rw [hperm.mem_iff, List.mem_map]
            exact ⟨fun ⟨c, h1, h2⟩ => ⟨c, h1, h2.symm⟩, fun ⟨c, h1, h2⟩ => ⟨c, h1, h2.symm⟩⟩
        have np60 : H p6 = none := by
          cases e : H p6 with
          | none => rfl
          | some o => rw [(s2.trans (k3.toSame.trans (s4.trans s5))) _ _ e] at np6; cases np6
        refine q _ p6 (s2.trans (k3.toSame.trans (s4.trans (s5.trans (same_upd np6))))) np60 ?_
        rw [upd_same, hys, etr]
        unfold sgs
        rw [List.map_map]
        rfl
end
end Mw


set_option Elab.async false
set_option linter.all false
set_option maxRecDepth 100000
set_option maxHeartbeats 4000000
set_option pp.maxSteps 600
set_option pp.deepTerms false
namespace Mw
open PySem PySem.Spec PyProof.Rows L2
open C8 (Cal pe_c Mak pe_mk)
theorem Kp.at {A : Addr → Prop} {H H' : Hp} (k : Kp A H H') {b : Addr} {o : HO} (e : H b = some o) (n : ¬ A b) : H' b = some o := k.kp b o e n
theorem cut2 (x y wr : Int) (sw : V) : cutV [.int x, .int y, .int wr, sw] none (some 2) = [.int x, .int y] := by
  unfold cutV
  rw [HT.sIx_none, show HT.sIx _ _ (some 2) = min 2 ([V.int x, .int y, .int wr, sw] : List V).length from HT.sIx_nat _ _ 2]
  rfl
theorem reach_max {p : Pr} {es : List Ent} {m : Int} (h1 : m ∈ (es.map fun e => ((reach1 p e : Nat) : Int)) ++ [0]) (h2 : ∀ y ∈ (es.map fun e => ((reach1 p e : Nat) : Int)) ++ [0], y ≤ m) : m = ((reach p es : Nat) : Int) := by
  obtain ⟨f1, f2, f3⟩ := foldl_max (es.map (reach1 p)) 0
  have a1 : m ≤ ((reach p es : Nat) : Int) := by
    rcases List.mem_append.mp h1 with z | z
    · obtain ⟨e, he, rfl⟩ := List.mem_map.mp z
      exact Int.ofNat_le.mpr (reach_le he)
    · rw [List.mem_singleton.mp z]
      exact Int.natCast_nonneg _
  have a2 : ((reach p es : Nat) : Int) ≤ m := by
    rcases f3 with z | z
    · have z2 : reach p es = 0 := z
      rw [z2]
      exact h2 0 (List.mem_append_right _ (List.mem_singleton.mpr rfl))
    · obtain ⟨e, he, e2⟩ := List.mem_map.mp z
      have z2 : reach1 p e = reach p es := e2
      rw [← z2]
      exact h2 _ (List.mem_append_left _ (List.mem_map.mpr ⟨e, he, rfl⟩))
  omega
theorem ents_snoc {es : List Ent} (ok : EntsOk es) {e' : Ent} (he : EntOk e') (hn : e'.1 ∉ wds es) (hl : es.length ≤ 3) : EntsOk (es ++ [e']) where
  all := fun x hx => (List.mem_append.mp hx).elim (ok.all x) fun z => by rw [List.mem_singleton.mp z]; exact he
  few := by rw [List.length_append]; show _ + 1 ≤ 4; omega
  nd := by
    rw [List.map_append, List.nodup_append]
    refine ⟨ok.nd, List.nodup_cons.mpr ⟨List.not_mem_nil, .nil⟩, fun a ha b hb e => hn ?_⟩
    have hb2 : b ∈ [_] := hb
    have e2 : b = e'.1 := List.mem_singleton.mp hb2
    rw [← e2, ← e]
    exact ha
section
variable {P : Program} {w : World} {K : PySem.W.Frag} {mg : Str → Option Value} {base : Heap}
/-! ### l.reach -/
abbrev NLReach : List Str := ["_law_case_here", "_law_further", "_law_lack", "_law_word", "_law_own"]
theorem scLReach : FnScope NLReach ["_law_case_here"] (defScope sLReach) := ⟨rfl, rfl, rfl, by decide +kernel, rfl, by decide +kernel, by decide +kernel⟩
def spLReach (P : Program) (w : World) (K : PySem.W.Frag) : Sp := fun vs H Q _ => ∃ (c lt pt en : Addr) (cs : List Nat) (p : Pr) (es : List Ent), vs = [.ref c] ∧ CaseAt H c lt pt en cs p es ∧ ∀ H', Same H H' → Q (.int ((reach p es : Nat) : Int)) H'
theorem oLReach (T : Txt K mg) : Cal P w K mg base 1 "_law_reach" (spLReach P w K) [] := by
  refine calD (dLReach_fn T) (gLReach T) scLReach (fun vs H Q E h => ?_) (fun _ _ _ _ _ _ us hl => match us, hl with | [_], _ => rfl) (fun cdv A outer s H vs Q E hr h => ?_)
  · obtain ⟨c, lt, pt, en, cs, p, es, rfl, _⟩ := h
    rfl
  · obtain ⟨c, lt, pt, en, cs, p, es, rfl, C, q⟩ := h
    obtain ⟨vs, hv1, hv2⟩ := C.he
    have ok := C.eok
    have pok := C.pok
    have hu := hu_of hr
    refine ⟨_, PSs.nox (pss_cons (ps_asg (pe_slice (kSlA K rfl) (pe_dget hu (pv 0) pe_str (fun _ _ => rfl)) po_none (po_some pe_int)) (pg_tup rfl (pgs_cons (pg_name (i := 1) scLReach.nd rfl (.inr rfl)) (pgs_cons (pg_name (i := 2) scLReach.nd rfl (.inr rfl)) pgs_nil))))
       (pss_one (ps_ret (pe_callB (kMax K rfl rfl) (by rfl) (f_max T) (by decide +kernel) (pa_cons (pe_op op_cat (pe_lc (own := [("_law_word", 3), ("_law_own", 4)]) (g := gTup K 2 (gCons (gName 3) (gCons (gName 4) gNil))) rfl scLReach.nd (kPiL K rfl (pe_dget hu (pv 0) pe_str (fun _ _ => rfl))) (blkOk_by (own := [("_law_word", 3), ("_law_own", 4)]) (N := NLReach) (sc := defScope sLReach) (by decide +kernel)) (fun _ _ _ _ _ => (pg_tup rfl (pgs_cons (pg_name (i := 3) scLReach.nd rfl (.inl rfl)) (pgs_cons (pg_name (i := 4) scLReach.nd rfl (.inl rfl)) pgs_nil)))) (fun _ _ _ _ _ => pts_nil) (fun _ _ _ _ _ => (pe_op op_add (pe_callB call_len_str (by rfl) (f_len T) (by decide +kernel) (pa_cons (pv 3) pa_nil)) (pe_op op_fdivN (pe_op op_mul (pv 2) (pe_callB call_len_str (by rfl) (f_len T) (by decide +kernel) (pa_cons (pv 3) pa_nil))) (pv 1))))) (pe_lst (pa_cons pe_int pa_nil))) pa_nil))))), ?_⟩
    have hsz : sizeLine = 16777216 := sizeLine_eq
    have hl : vs.length = es.length := Paired.length hv2
    have few := ok.few
    have px := pok.x
    have s2ix : HT.sIx ([V.int p.x, .int p.y, .int p.wr, optI p.sw] : List V).length ([V.int p.x, .int p.y, .int p.wr, optI p.sw] : List V).length (some 2) = 2 := HT.sIx_nat _ _ 2
    refine ⟨_, rfl, c, _, rfl, C.gP, 2, rfl, pt, _, rfl, .inl (.inl C.hp), fun z => ?_, fun _ t nt => ?_⟩
    · have h1 := z.2
      rw [s2ix] at h1
      cases h1
    rw [cut2]
    have s1 := same_upd (o := .tup [.int p.x, .int p.y]) nt
    have ht1 : (upd H t (.tup [.int p.x, .int p.y])) t = some (.tup [.int p.x, .int p.y]) := upd_same
    generalize (upd H t (.tup [.int p.x, .int p.y])) = H1 at s1 ht1 ⊢
    refine ⟨t, _, rfl, .inl (.inl ht1), rfl, _, _, rfl, _, _, rfl, rfl, ?_⟩
    have C1 := C.same s1
    have hv3 := s1 _ _ hv1
    refine ⟨_, rfl, c, _, rfl, C1.gE, en, rfl, ⟨_, .inl (.inl hv3)⟩, fun D hD => lc_map (walk_list (xs := vs)) noA (fun i ys H => ys = ((es.take i).map fun e => ((reach1 p e : Nat) : Int)).map V.int) hD id (by omega) (fun i ys H _ k _ => .inl (.inl (k.toSame _ _ hv3))) rfl ?_ ?_⟩
    · rintro i x H2 H3 ys hi k rfl ⟨e12, hy⟩ eD push
      have e21 := e12.symm
      subst e21
      obtain ⟨e, he, ea, rfl, hea⟩ := Paired.getL hv2 hy
      have eok := ok.all e (List.mem_of_getElem? he)
      have e5 := eok.hi
      have y0 := pok.y
      have htl := tx_len e.1
      refine ⟨ea, _, rfl, .inl (.inl (k.im.tup (s1 _ _ hea))), rfl, _, _, rfl, _, _, rfl, rfl, rfl, ?_⟩
      refine ⟨_, rfl, _, rfl, by omega, _, rfl, _, rfl, _, rfl, by omega, _, _, rfl, rfl, .inl ⟨by omega, by omega⟩, _, rfl, _, _, rfl, rfl, ⟨by omega, by omega⟩, _, _, rfl, rfl, push _ _ Kp.refl ?_⟩
      rw [List.take_add_one, he, List.map_append, List.map_append]
      have d1 : 0 ≤ p.y * (e.1.length : Int) := Int.mul_nonneg (by omega) (by omega)
      have d2 : 0 ≤ p.y * (e.1.length : Int) / p.x := Int.ediv_nonneg d1 (by omega)
      have e9 : ((tx e.1).length : Int) + (p.y * ((tx e.1).length : Int)).fdiv p.x = ((reach1 p e : Nat) : Int) := by
        rw [htl, Int.fdiv_eq_ediv_of_nonneg _ (by omega)]
        unfold reach1
        omega
      show _ ++ [V.int (((tx e.1).length : Int) + (p.y * ((tx e.1).length : Int)).fdiv p.x)] = _ ++ [V.int ((reach1 p e : Nat) : Int)]
      rw [e9]
    · intro H2 ys k eD t2
      subst t2
      rw [List.take_of_length_le (by omega)] at eD
      refine ⟨by show 1 ≤ sizeLine; omega, fun l nl => ?_⟩
      have s3 := same_upd (o := .lst [.int 0]) nl
      refine ⟨D, l, _, _, rfl, rfl, s3 _ _ eD, upd_same, by rw [List.length_map, List.length_map]; show _ + 1 ≤ _; omega, fun l2 nl2 => ?_⟩
      refine ⟨l2, (es.map fun e => ((reach1 p e : Nat) : Int)) ++ [0], rfl, .inl (.inl ?_), by rw [List.length_append]; exact Nat.succ_pos _, fun m hm hmx => ?_⟩
      · rw [upd_same, List.map_append]
        rfl
      rw [reach_max hm hmx]
      exact q _ (s1.trans (k.toSame.trans (s3.trans (same_upd nl2))))
/-! ### l.case -/
abbrev NLCase : List Str := ["_law_draw", "_law_many", "_law_most", "_law_case_here", "_law_turn", "_law_word", "_law_entry"]
theorem scLCase : FnScope NLCase ["_law_draw", "_law_many", "_law_most"] (defScope sLCase) := ⟨rfl, rfl, rfl, by decide +kernel, rfl, by decide +kernel, by decide +kernel⟩
def spLCase (P : Program) (w : World) (K : PySem.W.Frag) : Sp := fun vs H Q _ => ∃ (d a1 a2 : Addr) (many most : Nat), vs = [.ref d, .int (many : Int), .int (most : Int)] ∧ Draw H d a1 a2 ∧ many ≤ 3 ∧ 1 ≤ most ∧ most ≤ 5 ∧
  ∀ H' c lt pt en cs p es, Kp (dA d a1) H H' → Draw H' d a1 a2 → CaseAt H' c lt pt en cs p es → H c = none → H lt = none → H en = none → Q (.ref c) H'
theorem oLCase (T : Txt K mg) : Cal P w K mg base 4 "_law_case" (spLCase P w K) [] := by
  refine calD (dLCase_fn T) (gLCase T) scLCase (fun vs H Q E h => ?_) (fun _ _ _ _ _ _ us hl => match us, hl with | [_, _, _], _ => rfl) (fun cdv A outer s H vs Q E hr h => ?_)
  · obtain ⟨d, a1, a2, many, most, rfl, _⟩ := h
    rfl
  · obtain ⟨d, a1, a2, many, most, rfl, D, hmany, hm1, hm5, q⟩ := h
    have hu := hu_of hr
    refine ⟨_, PSs.nox (pss_cons (ps_set (i := 3) scLCase.nd rfl (.inl rfl) (pe_disp (pps_cons pe_str (pe_c (oLLetters T) hr (by decide) (by rfl) (pa_cons (pv 0) (pa_cons (pe_op op_add pe_int (pe_c (oLTake T) hr (by decide) (by rfl) (pa_cons (pv 0) (pa_cons pe_int pa_nil)))) pa_nil))) (pps_cons pe_str (pe_c (oLPrices T) hr (by decide) (by rfl) (pa_cons (pv 0) pa_nil)) (pps_cons pe_str (pe_lst pa_nil) pps_nil))) (by rfl) (by rfl) (fun z => by cases z) (by decide)))
       (pss_cons (ps_for PassesOwn.never rfl (pi_range1 (by rfl) (f_range T) (pa_cons (pe_c (oLTake T) hr (by decide) (by rfl) (pa_cons (pv 0) (pa_cons (pe_op op_add (pv 1) pe_int) pa_nil))) pa_nil)) (pg_name (i := 4) scLCase.nd rfl (.inl rfl))
       (pss_cons (ps_set (i := 5) scLCase.nd rfl (.inl rfl) (pe_c (oLString T) hr (by decide) (by rfl) (pa_cons (pv 0) (pa_cons (pe_dget hu (pv 3) pe_str (fun _ _ => rfl)) (pa_cons pe_int (pa_cons (pv 2) pa_nil))))))
       (pss_one (ps_if (pt_cmpR (kNotIn K rfl) (pv 5) (pe_lc (own := [("_law_entry", 6)]) (g := gName 6) rfl scLCase.nd (kPiL K rfl (pe_dget hu (pv 3) pe_str (fun _ _ => rfl))) (blkOk_by (own := [("_law_entry", 6)]) (N := NLCase) (sc := defScope sLCase) (by decide +kernel)) (fun _ _ _ _ _ => (pg_name (i := 6) scLCase.nd rfl (.inl rfl))) (fun _ _ _ _ _ => pts_nil) (fun _ _ _ _ _ => (pe_ix (kIxT K rfl) (pv 6) pe_int (fun _ _ => rfl)))) (by rfl))
       (pss_one (ps_expr (pe_bm PySem.F.plainAttrs_list PySem.F.slot_list_append PySem.F.type_list_append mt_append (pe_dget hu (pv 3) pe_str (fun _ _ => rfl)) (pa_cons (pe_tup (pa_cons (pv 5) (pa_cons (pe_c (oLPick T) hr (by decide) (by rfl) (pa_cons (pv 0) (pa_cons (pe_lst (pa_cons pe_int (pa_cons pe_int (pa_cons pe_int (pa_cons pe_int (pa_cons pe_int (pa_cons pe_int (pa_cons pe_int (pa_cons (pe_c (oLTake T) hr (by decide) (by rfl) (pa_cons (pv 0) (pa_cons pe_int pa_nil))) pa_nil))))))))) pa_nil))) pa_nil))) pa_nil))))
       pss_nil))))
       (pss_one (ps_ret (pv 3))))), ?_⟩
    have hsz : sizeLine = 16777216 := sizeLine_eq
    intro c nc
    have D1 := D.same (same_upd (o := .dK []) nc)
    have k1 : Kp (dA d a1) H (upd H c (.dK [])) := Kp.new nc
    have hc1 : (upd H c (.dK [])) c = some (.dK []) := upd_same
    generalize (upd H c (.dK [])) = H1 at D1 k1 hc1 ⊢
    have ncd : ¬ dA d a1 c := D.ne0 nc
    refine ⟨_, rfl, _, rfl, d, a1, a2, 2, rfl, D1, by decide, by decide, fun H2 k k2 D2 hk => ⟨_, _, rfl, rfl, d, a1, a2, 2 + k, ?_, D2, by omega, fun H3 lt cs k3 D3 nl hlt hcl hca => ?_⟩⟩
    · show [V.ref d, V.int (2 + (k : Int))] = _
      rw [show ((2 + k : Nat) : Int) = 2 + (k : Int) by omega]
    refine ⟨_, rfl, d, a1, a2, rfl, D3, fun H4 pt p k4 D4 hpt pok => ⟨Nat.zero_le _, fun en nen => ?_⟩⟩
    have D5 := D4.same (same_upd (o := .lst []) nen)
    have k5 : Kp (dA d a1) H4 (upd H4 en (.lst [])) := Kp.new nen
    have hen5 : (upd H4 en (.lst [])) en = some (.lst []) := upd_same
    generalize (upd H4 en (.lst [])) = H5 at D5 k5 hen5 ⊢
    have ncl : ¬ dA d a1 lt := (D2.same (Same.rfl')).ne0 nl
    have nel : ¬ dA d a1 en := D4.ne0 nen
    have hlt4 := k4.kp _ _ hlt ncl
    have hc4 := k4.kp _ _ (k3.kp _ _ (k2.kp _ _ hc1 ncd) ncd) ncd
    have nlc : lt ≠ c := ne_of hlt4 hc4 (by intro z; cases z)
    have nle : lt ≠ en := ne_of_none hlt4 nen
    have nec : en ≠ c := ne_of hen5 (k5.kp _ _ hc4 ncd) (by intro z; cases z)
    have k15 := k2.trans (k3.trans (k4.trans k5))
    have nl0 : H lt = none := D2.fr (k1.trans k2) nl
    have ne0 : H en = none := D4.fr (k1.trans (k2.trans (k3.trans k4))) nen
    refine ⟨k5.kp _ _ hc4 ncd, csKV lt pt en, rfl, by show 3 ≤ 15; omega, ?_⟩
    rw [csM]
    have hc5 := k5.kp _ _ hc4 ncd
    have k6 : Kp (dA d a1) H (upd H5 c (.dK (csKV lt pt en))) := (k1.trans k15).bk nc hc5 (fun z => z)
    have D6 : Draw (upd H5 c (.dK (csKV lt pt en))) d a1 a2 := D5.bk D nc hc5 (fun z => z)
    have i6 : Imm H5 (upd H5 c (.dK (csKV lt pt en))) := Imm.wr hc5 (fun z => z)
    have C6 : CaseAt (upd H5 c (.dK (csKV lt pt en))) c lt pt en cs p [] := ⟨upd_same, (upd_ne nlc).trans (k5.kp _ _ hlt4 ncl), i6.tup (k5.im.tup hpt), ⟨[], (upd_ne nec).trans hen5, .nil⟩, hca, by omega, pok, ⟨fun e he => (by cases he), Nat.zero_le _, .nil⟩⟩
    generalize (upd H5 c (.dK (csKV lt pt en))) = H6 at k6 D6 C6 ⊢
    clear k15 hc5 i6 hen5 D5 k5 hc4 hlt4 D4 k4 hpt D3 k3 hlt D2 k2 hc1 D1 k1
    have far : Far d a1 c lt en := ⟨ncd, ncl, nel⟩
    refine ⟨_, rfl, _, rfl, _, _, rfl, rfl, d, a1, a2, many + 1, rfl, D6, by omega, by omega, fun H7 kk k7 D7 hkk => ⟨_, rfl, by omega, by omega, ?_⟩⟩
    have hcount : ((kk : Nat) : Int).toNat = kk := by omega
    refine for_it walk_range (fun i σ H8 => ∃ x4 x5 x6 es, σ = [some (.ref d), some (.int (many : Int)), some (.int (most : Int)), some (.ref c), x4, x5, x6] ∧ Kp (dA d a1) H H8 ∧ Draw H8 d a1 a2 ∧ CaseAt H8 c lt pt en cs p es ∧ es.length ≤ i) ⟨_, _, _, [], rfl, k6.trans k7, D7, C6.draw far k7, Nat.le_refl _⟩ (fun _ _ _ _ _ => trivial) ?_ ?_
    · rintro i x σ H8 H9 hi ⟨x4, x5, x6, es, rfl, k8, D8, C8, hes⟩ ⟨e89, ex⟩
      have e98 := e89.symm
      subst e98
      have hi2 : i < kk := by omega
      have few := C8.few
      refine ⟨_, rfl, _, rfl, c, _, rfl, C8.gL, _, rfl, d, a1, a2, lt, cs, 1, most, rfl, D8, C8.hl, fun z => ncl (.inr z), few.1, by omega, hm1, by omega, fun HA word kA DA hw1 hw2 hwc => ?_⟩
      have CA := C8.draw far kA
      obtain ⟨vs, hv1, hv2⟩ := CA.he
      have ok := CA.eok
      have hl : vs.length = es.length := Paired.length hv2
      refine ⟨_, rfl, _, rfl, c, _, rfl, CA.gE, en, rfl, ⟨_, .inl (.inl hv1)⟩, fun D0 hD0 => lc_map (walk_list (xs := vs)) noA (fun i ys H => ys = txs ((wds es).take i)) hD0 id (by omega) (fun i ys H _ k _ => .inl (.inl (k.toSame _ _ hv1))) rfl ?_ ?_⟩
      · rintro j x H1 H2 ys hj k rfl ⟨e12, hy⟩ eD push
        have e21 := e12.symm
        subst e21
        obtain ⟨e, he, ea, rfl, hea⟩ := Paired.getL hv2 hy
        refine ⟨rfl, _, rfl, ea, _, _, _, rfl, rfl, .inl (.inl (k.im.tup hea)), rfl, push _ _ Kp.refl ?_⟩
        have g1 : (wds es)[j]? = some e.1 := by rw [List.getElem?_map, he]; rfl
        rw [List.take_add_one, g1]
        unfold txs
        rw [List.map_append]
        rfl
      intro HB ys kB eD tB
      subst tB
      rw [List.take_of_length_le (by rw [List.length_map]; omega)] at eD
      refine ⟨D0, _, rfl, .inl (.inl (.inl eD)), rfl, txs_flat _, _, rfl, ?_⟩
      show if (!inV (.str (tx word)) (txs (wds es))) = true then _ else _
      rw [inV_txs]
      have sB := kB.toSame
      have DB := DA.same sB
      have CB := CA.same sB
      have k8B := k8.trans (kA.trans (Kp.same sB))
      by_cases hin : word ∈ wds es
      · refine iteND hin ?_
        exact ⟨_, _, _, es, rfl, k8B, DB, CB, by omega⟩
      · refine iteNDn hin ?_
        obtain ⟨vb, hb1, hb2⟩ := CB.he
        have hbl : vb.length = es.length := Paired.length hb2
        refine ⟨_, rfl, c, _, rfl, CB.gE, .inl ⟨rfl, _, .inl (.inl hb1)⟩, _, rfl, _, rfl, _, rfl, d, a1, a2, 12, rfl, DB, by decide, by decide, fun HC k2 kC DC hk2 => ⟨by show 8 ≤ sizeLine; omega, fun l nl2 => ⟨d, a1, a2, l, _, rfl, DC.same (same_upd nl2), upd_same, fun z => DC.ne0 nl2 (.inr z), by show 1 ≤ 8; omega, by show 8 ≤ 1000; omega, fun HD v kD DD hv => ?_⟩⟩⟩
        obtain ⟨z, rfl, z1, z2⟩ : ∃ z : Int, v = .int z ∧ 0 ≤ z ∧ z ≤ 11 := by
          simp only [List.mem_cons, List.not_mem_nil, or_false] at hv
          rcases hv with rfl | rfl | rfl | rfl | rfl | rfl | rfl | rfl
          all_goals first | exact ⟨_, rfl, by decide, by decide⟩ | exact ⟨_, rfl, by omega, by omega⟩
        refine ⟨by show 2 ≤ sizeLine; omega, fun t nt => ?_⟩
        have kE : Kp (dA d a1) HB (upd HD t (.tup [.str (tx word), .int z])) := kC.trans ((Kp.new nl2).trans (kD.trans (Kp.new nt)))
        have DE : Draw (upd HD t (.tup [.str (tx word), .int z])) d a1 a2 := DD.same (same_upd nt)
        have htE : (upd HD t (.tup [.str (tx word), .int z])) t = some (.tup [.str (tx word), .int z]) := upd_same
        generalize (upd HD t (.tup [.str (tx word), .int z])) = HE at kE DE htE ⊢
        have CE := CB.draw far kE
        have hbE := kE.kp _ _ hb1 nel
        refine ⟨en, _, _, rfl, rfl, hbE, by omega, ?_⟩
        have iF : Imm HE (upd HE en (.lst (vb ++ [.ref t]))) := Imm.wr hbE (fun z => z)
        have eok : EntOk (word, z) := ⟨fun x hx => hca x (hwc x hx), hw1, by show word.length ≤ 5; omega, z1, by show z ≤ 999; omega⟩
        refine ⟨_, _, _, es ++ [(word, z)], rfl, (k8B.trans kE).bk ne0 hbE (fun z => z), DE.bk D ne0 hbE (fun z => z), ⟨(upd_ne nec.symm).trans CE.hc, (upd_ne nle).trans CE.hl, iF.tup CE.hp, ⟨_, upd_same, Paired.snoc ⟨t, rfl, iF.tup htE⟩ (Paired.mapP hb2 fun _ _ q => q.im (kE.im.trans iF))⟩, CE.abc, CE.few, CE.pok, ents_snoc ok eok hin (by omega)⟩, by rw [List.length_append]; exact Nat.succ_le_succ hes⟩
    · rintro σ H8 ⟨x4, x5, x6, es, rfl, k8, D8, C8, hes⟩
      exact ⟨_, rfl, q H8 c lt pt en cs p es k8 D8 C8 nc nl0 ne0⟩
end
end Mw


set_option Elab.async false
set_option linter.all false
set_option maxRecDepth 100000
set_option maxHeartbeats 4000000
namespace Mw
/-! ### words with their last letter left out -/
def shortL (es : List Ent) : List Ent := (es.filter fun e => decide (1 < e.1.length)).map fun e => (e.1.dropLast, e.2)
def wd1 (es : List Ent) : List (List Nat) := es.map (·.1)
def freshI (l : List Ent) : Nat → List Ent
  | 0 => []
  | i + 1 => match l[i]? with
    | some e => if e.1 ∈ wd1 (l.take i) then freshI l i else freshI l i ++ [e]
    | none => freshI l i
def wsum (es : List Ent) : Nat := (es.map (·.1.length)).sum
theorem freshI_sub (l : List Ent) : ∀ i, ∀ e ∈ freshI l i, e ∈ l.take i
  | 0, e, h => by cases h
  | i + 1, e, h => by
    have ih := freshI_sub l i
    unfold freshI at h
    cases hi : l[i]? with
    | none =>
      rw [hi] at h
      rw [List.take_add_one]
      exact List.mem_append_left _ (ih e h)
    | some x =>
      rw [hi] at h
      rw [List.take_add_one, hi]
      change e ∈ (if x.1 ∈ wd1 (l.take i) then freshI l i else freshI l i ++ [x]) at h
      split at h
      · exact List.mem_append_left _ (ih e h)
      · rcases List.mem_append.mp h with z | z
        · exact List.mem_append_left _ (ih e z)
        · exact List.mem_append_right _ z
theorem freshI_nd (l : List Ent) : ∀ i, (wd1 (freshI l i)).Nodup
  | 0 => .nil
  | i + 1 => by
    have ih := freshI_nd l i
    unfold freshI
    cases hi : l[i]? with
    | none => exact ih
    | some x =>
      show (wd1 (if x.1 ∈ wd1 (l.take i) then freshI l i else freshI l i ++ [x])).Nodup
      split
      · exact ih
      · rename_i hn
        unfold wd1
        rw [List.map_append, List.nodup_append]
        refine ⟨ih, List.nodup_cons.mpr ⟨List.not_mem_nil, .nil⟩, fun a ha b hb e => hn ?_⟩
        have hb2 : b = x.1 := List.mem_singleton.mp hb
        obtain ⟨y, hy, e2⟩ := List.mem_map.mp ha
        exact List.mem_map.mpr ⟨y, freshI_sub l i y hy, by rw [e2, e, hb2]⟩
theorem freshI_len (l : List Ent) : ∀ i, (freshI l i).length ≤ i ∧ wsum (freshI l i) ≤ wsum (l.take i)
  | 0 => ⟨Nat.le_refl _, Nat.le_refl _⟩
  | i + 1 => by
    obtain ⟨h1, h2⟩ := freshI_len l i
    unfold freshI
    cases hi : l[i]? with
    | none =>
      rw [List.take_add_one, hi]
      exact ⟨by show (freshI l i).length ≤ _; omega, by show wsum (freshI l i) ≤ wsum (_ ++ []); rw [List.append_nil]; exact h2⟩
    | some x =>
      rw [List.take_add_one, hi]
      have e : wsum (l.take i ++ [x]) = wsum (l.take i) + x.1.length := by
        unfold wsum
        rw [List.map_append, List.sum_append]
        simp
      show (if x.1 ∈ wd1 (l.take i) then freshI l i else freshI l i ++ [x]).length ≤ _ ∧ wsum (if x.1 ∈ wd1 (l.take i) then freshI l i else freshI l i ++ [x]) ≤ wsum (l.take i ++ [x])
      rw [e]
      split
      · exact ⟨by omega, by omega⟩
      · refine ⟨by rw [List.length_append]; exact Nat.succ_le_succ h1, ?_⟩
        have e2 : wsum (freshI l i ++ [x]) = wsum (freshI l i) + x.1.length := by
          unfold wsum
          rw [List.map_append, List.sum_append]
          simp
        omega
def freshL (l : List Ent) : List Ent := freshI l l.length
theorem shortL_sum : ∀ {es : List Ent}, (∀ e ∈ es, 1 ≤ e.1.length) → wsum (shortL es) + es.length ≤ wsum es
  | [], _ => Nat.le_refl _
  | e :: es, h => by
    have ih := shortL_sum (es := es) fun x hx => h x (List.mem_cons_of_mem _ hx)
    have h1 := h e (List.mem_cons_self ..)
    unfold shortL wsum at ih ⊢
    rw [List.filter_cons]
    by_cases z : 1 < e.1.length
    · rw [decide_eq_true z, if_pos rfl, List.map_cons, List.map_cons, List.map_cons, List.sum_cons, List.sum_cons, List.length_cons, List.length_dropLast]
      omega
    · rw [decide_eq_false z, if_neg (by simp), List.map_cons, List.sum_cons, List.length_cons]
      omega
theorem shorter {es : List Ent} (ok : EntsOk es) : EntsOk (freshL (shortL es)) ∧ wsum (freshL (shortL es)) + es.length ≤ wsum es := by
  have hs := shortL_sum fun e he => (ok.all e he).lo
  have hf := freshI_len (shortL es) (shortL es).length
  have hl : (shortL es).length ≤ es.length := by
    unfold shortL
    rw [List.length_map]
    exact List.length_filter_le ..
  rw [List.take_length] at hf
  refine ⟨⟨fun e he => ?_, ?_, freshI_nd _ _⟩, ?_⟩
  · have h1 := freshI_sub _ _ e he
    rw [List.take_length] at h1
    obtain ⟨x, hx, rfl⟩ := List.mem_map.mp h1
    obtain ⟨h2, h3⟩ := List.mem_filter.mp hx
    have h4 := ok.all x h2
    have h5 : 1 < x.1.length := of_decide_eq_true h3
    have h6 := h4.hi
    refine ⟨fun c hc => h4.abc c ((List.dropLast_sublist _).subset hc), ?_, ?_, h4.own⟩
    · show 1 ≤ x.1.dropLast.length
      rw [List.length_dropLast]
      omega
    · show x.1.dropLast.length ≤ 5
      rw [List.length_dropLast]
      omega
  · have := ok.few
    show (freshI _ _).length ≤ 4
    omega
  · show wsum (freshI _ _) + _ ≤ _
    omega
theorem tried_nil : (tried []).length = 1 := by decide
theorem reach_nil (p : Pr) : reach p [] = 0 := rfl
end Mw


set_option Elab.async false
set_option linter.all false
set_option maxRecDepth 100000
set_option maxHeartbeats 4000000
set_option pp.maxSteps 600
set_option pp.deepTerms false
namespace Mw
open PySem PySem.Spec PyProof.Rows L2
open C8 (Cal pe_c Mak pe_mk)
def whB : Stmt → List Stmt
  | .While _ b _ _ => b
  | .For _ _ b _ _ => b
  | _ => []
theorem slice_tx (l : List Nat) (lo hi : Option Int) : Txt.slice (tx l) lo hi = tx ((l.drop (HT.sIx l.length 0 lo)).take (HT.sIx l.length l.length hi - HT.sIx l.length 0 lo)) := by
  rw [← C8.cutS_slice]
  unfold cutS
  rw [tx_len]
theorem slice_butlast (l : List Nat) : Txt.slice (tx l) none (some (-1)) = tx l.dropLast := by
  rw [slice_tx, HT.sIx_none, List.drop_zero, Nat.sub_zero]
  have : HT.sIx l.length l.length (some (-1)) = l.length - 1 := by
    show (if (-1 : Int) < 0 then ((-1 : Int) + (l.length : Int)).toNat else min (-1 : Int).toNat l.length) = _
    rw [if_pos (by decide)]
    omega
  rw [this, List.dropLast_eq_take]
theorem cut_first (xs : List V) (j : Nat) (h : j ≤ xs.length) : cutV xs none (some (j : Int)) = xs.take j := by
  unfold cutV
  rw [HT.sIx_none, HT.sIx_nat, List.drop_zero, Nat.sub_zero, Nat.min_eq_left h]
theorem Paired.take {α β : Type} {F : α → β → Prop} : ∀ {l1 : List α} {l2 : List β} (n : Nat), Paired F l1 l2 → Paired F (l1.take n) (l2.take n)
  | _, _, 0, _ => by rw [List.take_zero, List.take_zero]; exact .nil
  | _, _, _ + 1, .nil => .nil
  | _, _, n + 1, .cons h t => .cons h (Paired.take n t)
section
variable {P : Program} {w : World} {K : PySem.W.Frag} {mg : Str → Option Value} {base : Heap}
/-! ### l.small -/
abbrev NLSmall : List Str := ["_law_draw", "_law_many", "_law_most", "_law_case_here", "_law_size", "_law_entries", "_law_word", "_law_own", "_law_fresh", "_law_at", "_law_pair", "_law_one"]
theorem scLSmall : FnScope NLSmall ["_law_draw", "_law_many", "_law_most"] (defScope sLSmall) := ⟨rfl, rfl, rfl, by decide +kernel, rfl, by decide +kernel, by decide +kernel⟩
def spLSmall (P : Program) (w : World) (K : PySem.W.Frag) : Sp := fun vs H Q _ => ∃ (d a1 a2 : Addr), vs = [.ref d, .int 3, .int 300] ∧ Draw H d a1 a2 ∧
  ∀ H' c lt pt en cs p es, Kp (dA d a1) H H' → Draw H' d a1 a2 → CaseAt H' c lt pt en cs p es → H c = none → H lt = none → H en = none → (tried es).length ^ (reach p es + 1) ≤ 300 → Q (.ref c) H'
theorem oLSmall (T : Txt K mg) : Cal P w K mg base 5 "_law_small" (spLSmall P w K) [] := by
  refine calD (dLSmall_fn T) (gLSmall T) scLSmall (fun vs H Q E h => ?_) (fun _ _ _ _ _ _ us hl => match us, hl with | [_, _, _], _ => rfl) (fun cdv A outer s H vs Q E hr h => ?_)
  · obtain ⟨d, a1, a2, rfl, _⟩ := h
    rfl
  · obtain ⟨d, a1, a2, rfl, D, q⟩ := h
    have hu := hu_of hr
    refine ⟨_, PSs.nox (pss_cons (ps_set (i := 3) scLSmall.nd rfl (.inl rfl) (pe_c (oLCase T) hr (by decide) (by rfl) (pa_cons (pv 0) (pa_cons (pv 1) (pa_cons pe_int pa_nil)))))
       (pss_one (ps_while PassesOwn.never (pt_val pe_bl)
       (pss_cons (ps_set (i := 4) scLSmall.nd rfl (.inl rfl) (pe_callB (kLen K rfl) (by rfl) (f_len T) (by decide +kernel) (pa_cons (pe_c (oLAlphabet T) hr (by decide) (by rfl) (pa_cons (pv 3) pa_nil)) pa_nil)))
       (pss_cons (ps_if (pt_cmpR op_le (pe_c (oLPower T) hr (by decide) (by rfl) (pa_cons (pv 4) (pa_cons (pe_op op_add (pe_c (oLReach T) hr (by decide) (by rfl) (pa_cons (pv 3) pa_nil)) pe_int) pa_nil))) (pv 2) (nomark _))
       (pss_one (ps_ret (pv 3)))
       pss_nil)
       (pss_cons (ps_set (i := 5) scLSmall.nd rfl (.inr rfl) (pe_lc (own := [("_law_word", 6), ("_law_own", 7)]) (g := gTup K 2 (gCons (gName 6) (gCons (gName 7) gNil))) rfl scLSmall.nd (kPiL K rfl (pe_dget hu (pv 3) pe_str (fun _ _ => rfl))) (blkOk_by (own := [("_law_word", 6), ("_law_own", 7)]) (N := NLSmall) (sc := defScope sLSmall) (by decide +kernel)) (fun _ _ _ _ _ => (pg_tup rfl (pgs_cons (pg_name (i := 6) scLSmall.nd rfl (.inl rfl)) (pgs_cons (pg_name (i := 7) scLSmall.nd rfl (.inl rfl)) pgs_nil)))) (fun _ _ _ _ _ => (pts_one (pt_cmpR op_gt (pe_callB call_len_str (by rfl) (f_len T) (by decide +kernel) (pa_cons (pv 6) pa_nil)) pe_int (nomark _)))) (fun _ _ _ _ _ => (pe_tup (pa_cons (pe_slice C8.sl_txt (pv 6) po_none (po_some (pe_un un_neg pe_int))) (pa_cons (pv 7) pa_nil))))))
       (pss_cons (ps_setLc (i := 8) (own := [("_law_at", 9), ("_law_pair", 10)]) (g := gTup K 2 (gCons (gName 9) (gCons (gName 10) gNil))) rfl scLSmall.nd rfl rfl (sw_true rfl rfl rfl (by decide +kernel)) (pi_enum (by rfl) (f_enumerate T) (pa_cons (pv 5) pa_nil)) (blkOk_by (own := [("_law_at", 9), ("_law_pair", 10)]) (N := NLSmall) (sc := defScope sLSmall) (by decide +kernel)) (fun _ _ _ _ _ => (pg_tup rfl (pgs_cons (pg_name (i := 9) scLSmall.nd rfl (.inl rfl)) (pgs_cons (pg_name (i := 10) scLSmall.nd rfl (.inl rfl)) pgs_nil)))) (fun _ _ _ _ _ => (pts_one (pt_cmpR (kNotIn K rfl) (pe_ix (kIxT K rfl) (pv 10) pe_int (fun _ _ => rfl)) (pe_lc (own := [("_law_one", 11)]) (g := gName 11) rfl scLSmall.nd (kPiL K rfl (pe_slice (kSlL K rfl) (pv 5) po_none (po_some (pv 9)))) (blkOk_eq (own := [("_law_one", 11)]) (N := NLSmall) (sc := reSc (defScope sLSmall) (lcSc (stVal ((whB ((defBody sLSmall).getD 1 (.Pass ⟨0, 0, 0, 0⟩))).getD 3 (.Pass ⟨0, 0, 0, 0⟩))))) (by rfl) (by decide +kernel)) (fun _ _ _ _ _ => (pg_name (i := 11) scLSmall.nd rfl (.inl rfl))) (fun _ _ _ _ _ => pts_nil) (fun _ _ _ _ _ => (pe_ix (kIxT K rfl) (pv 11) pe_int (fun _ _ => rfl)))) (by rfl)))) (fun _ _ _ _ _ => (pv 10)))
       (pss_one (ps_set (i := 3) scLSmall.nd rfl (.inl rfl) (pe_disp (pps_cons pe_str (pe_dget hu (pv 3) pe_str (fun _ _ => rfl)) (pps_cons pe_str (pe_dget hu (pv 3) pe_str (fun _ _ => rfl)) (pps_cons pe_str (pv 8) pps_nil))) (by rfl) (by rfl) (fun z => by cases z) (by decide))))))))))), ?_⟩
    have hsz : sizeLine = 16777216 := sizeLine_eq
    refine ⟨_, rfl, _, rfl, d, a1, a2, 3, 4, rfl, D, by decide, by decide, by decide, fun H1 c lt pt en cs p es k1 D1 C1 nc nl ne => ?_⟩
    refine ⟨fun m σ H2 => ∃ c lt pt en cs p es x4 x5 x6 x7 x8 x9 x10 x11, m = wsum es ∧ σ = [some (.ref d), some (.int 3), some (.int 300), some (.ref c), x4, x5, x6, x7, x8, x9, x10, x11] ∧ Kp (dA d a1) H H2 ∧ Draw H2 d a1 a2 ∧ CaseAt H2 c lt pt en cs p es ∧ H c = none ∧ H lt = none ∧ H en = none,
      ⟨_, c, lt, pt, en, cs, p, es, _, _, _, _, _, _, _, _, rfl, rfl, k1, D1, C1, nc, nl, ne⟩, ?_⟩
    clear C1 D1 k1 nc nl ne
    rintro m σ H2 ⟨c, lt, pt, en, cs, p, es, x4, x5, x6, x7, x8, x9, x10, x11, rfl, rfl, k2, D2, C2, nc, nl, ne⟩
    have ok := C2.eok
    have few := ok.few
    refine ⟨true, rfl, iteT ⟨fun σ' H' => ∃ c lt pt en cs p es' x4 x5 x6 x7 x8 x9 x10 x11, wsum es' < wsum es ∧ σ' = [some (.ref d), some (.int 3), some (.int 300), some (.ref c), x4, x5, x6, x7, x8, x9, x10, x11] ∧ Kp (dA d a1) H H' ∧ Draw H' d a1 a2 ∧ CaseAt H' c lt pt en cs p es' ∧ H c = none ∧ H lt = none ∧ H en = none,
      fun σ' H' ⟨c, lt, pt, en, cs, p, es', x4, x5, x6, x7, x8, x9, x10, x11, h1, h2⟩ => ⟨_, h1, c, lt, pt, en, cs, p, es', x4, x5, x6, x7, x8, x9, x10, x11, rfl, h2⟩, ?_⟩⟩
    refine ⟨_, rfl, c, lt, pt, en, cs, p, es, rfl, C2, fun H3 r s3 _ hr => ⟨r, _, rfl, .inl (.inl (.inl hr)), ?_⟩⟩
    have C3 := C2.same s3
    have h26 := tried_len es
    have h50 := reach_50 C2.pok ok
    refine ⟨_, rfl, _, rfl, c, lt, pt, en, cs, p, es, rfl, C3, fun H4 s4 => ⟨_, _, rfl, rfl, (tried es).length, reach p es + 1, by rw [sgs_len]; rfl, by omega, by omega, _, rfl, _, _, rfl, rfl, _, rfl, ite2 (fun e => ?_) (fun e => ?_)⟩⟩
    · have h300 : (tried es).length ^ (reach p es + 1) ≤ 300 := by
        have := of_decide_eq_true e
        omega
      exact ⟨_, rfl, q H4 c lt pt en cs p es (k2.trans (Kp.same (s3.trans s4))) (D2.same (s3.trans s4)) (C3.same s4) nc nl ne h300⟩
    · have hes : es ≠ [] := fun z => by
        subst z
        rw [tried_nil, reach_nil] at e
        exact e (decide_eq_true (by decide))
      have C4 := C3.same s4
      have k4 := k2.trans (Kp.same (s3.trans s4))
      have D4 := D2.same (s3.trans s4)
      clear C3 s4 s3 hr
      obtain ⟨vs, hv1, hv2⟩ := C4.he
      have hl : vs.length = es.length := Paired.length hv2
      refine ⟨_, rfl, c, _, rfl, C4.gE, en, rfl, ⟨_, .inl (.inl hv1)⟩, fun D0 hD0 => lc_gen (walk_list (xs := vs)) noA (fun i ys H => EntsV H ys (shortL (es.take i))) hD0 id (by omega) (fun i ys H _ k _ => .inl (.inl (k.toSame _ _ hv1))) .nil ?_ ?_⟩
      · rintro i x H5 H6 ys hi k hys ⟨e12, hy⟩ eD push skip
        have e21 := e12.symm
        subst e21
        obtain ⟨e1, he1, ea, rfl, hea⟩ := Paired.getL hv2 hy
        have eok := ok.all e1 (List.mem_of_getElem? he1)
        have e5 := eok.hi
        have htl := tx_len e1.1
        have eshort : shortL (es.take (i + 1)) = shortL (es.take i) ++ shortL [e1] := by
          unfold shortL
          rw [List.take_add_one, he1, List.filter_append, List.map_append]
          rfl
        refine ⟨ea, _, rfl, .inl (.inl (k.im.tup hea)), rfl, _, _, rfl, _, _, rfl, rfl, rfl, ?_⟩
        refine ⟨_, rfl, _, rfl, by omega, _, _, rfl, rfl, _, rfl, ite2 (fun e3 => ?_) (fun e3 => ?_)⟩
        · have h1 : 1 < e1.1.length := by
            have := of_decide_eq_true e3
            omega
          refine ⟨_, rfl, _, rfl, _, rfl, _, rfl, by omega, _, rfl, by show 2 ≤ sizeLine; omega, fun t nt => ?_⟩
          rw [slice_butlast]
          have iT : Imm H5 (upd (upd H5 t (.tup [.str (tx e1.1.dropLast), .int e1.2])) D0 (.lst (ys ++ [.ref t]))) := (Imm.new nt).trans (Imm.wr ((same_upd nt) _ _ eD) (fun z => z))
          refine push _ _ (Kp.new nt) ?_
          rw [eshort, show shortL [e1] = [(e1.1.dropLast, e1.2)] by unfold shortL; rw [List.filter_cons, decide_eq_true h1]; rfl]
          refine Paired.snoc ⟨t, rfl, (Imm.wr ((same_upd nt) _ _ eD) (fun z => z)).tup upd_same⟩ (hys.im iT)
        · have h1 : ¬ 1 < e1.1.length := fun z => e3 (decide_eq_true (by omega))
          refine skip _ Kp.refl ?_
          rw [eshort, show shortL [e1] = [] by unfold shortL; rw [List.filter_cons, decide_eq_false h1]; rfl, List.append_nil]
          exact hys
      intro H5 ys k5 hD5 hys
      rw [List.take_of_length_le (by omega)] at hys
      have hsh := shorter ok
      have hsl3 : (shortL es).length ≤ 4 := by
        have : (shortL es).length ≤ es.length := by
          unfold shortL
          rw [List.length_map]
          exact List.length_filter_le ..
        omega
      have hfr : freshL (shortL es) = freshI (shortL es) (shortL es).length := rfl
      generalize shortL es = sl at hys hsh hsl3 hfr
      have hyl : ys.length = sl.length := Paired.length hys
      refine ⟨_, rfl, D0, ys, rfl, .inl (.inl hD5), fun D1 hD1 => lc_gen (walk_enum (xs := ys)) noA (fun i zs H => EntsV H zs (freshI sl i)) hD1 id (by omega) (fun i zs H _ k _ => .inl (.inl (k.toSame _ _ hD5))) .nil ?_ ?_⟩
      · rintro i x H6 H7 zs hi k6 hzs ⟨T', v1, v2, rfl, nT, rfl, e1, e2⟩ eD1 push skip
        cases (Option.some.inj e1)
        obtain ⟨en1, hen1, ea, rfl, hea⟩ := Paired.getL hys e2
        have s67 := same_upd (o := .tup [.int (i : Nat), .ref ea]) nT
        have hT7 : (upd H6 T' (.tup [.int (i : Nat), .ref ea])) T' = some (.tup [.int (i : Nat), .ref ea]) := upd_same
        generalize (upd H6 T' (.tup [.int (i : Nat), .ref ea])) = H7 at s67 hT7 ⊢
        have s57 : Same H5 H7 := k6.toSame.trans s67
        have hi2 : i < sl.length := by omega
        refine ⟨T', _, rfl, .inl (.inl hT7), rfl, _, _, rfl, _, _, rfl, rfl, rfl, ?_⟩
        refine ⟨_, rfl, ea, _, _, _, rfl, rfl, .inl (.inl (s57 _ _ hea)), rfl, _, rfl, _, rfl, _, rfl, D0, _, rfl, .inl (.inl (s57 _ _ hD5)), fun r3 nr3 => ?_⟩
        rw [cut_first _ _ (by omega)]
        have s8 := same_upd (o := .lst (ys.take i)) nr3
        have hr8 : (upd H7 r3 (.lst (ys.take i))) r3 = some (.lst (ys.take i)) := upd_same
        generalize (upd H7 r3 (.lst (ys.take i))) = H8 at s8 hr8 ⊢
        have s58 := s57.trans s8
        have hyt : EntsV H8 (ys.take i) (sl.take i) := Paired.take i (hys.im (Imm.of_same s58))
        have hytl : (ys.take i).length = i := by rw [List.length_take]; omega
        refine ⟨r3, rfl, ⟨_, .inl (.inl hr8)⟩, fun D2 hD2 => lc_map (walk_list (xs := ys.take i)) noA (fun j us H => us = txs ((wd1 (sl.take i)).take j)) hD2 id (by omega) (fun j us H _ k _ => .inl (.inl (k.toSame _ _ hr8))) rfl ?_ ?_⟩
        · rintro j x H1 H2 us hj k rfl ⟨e12, hy⟩ eD2 push2
          have e21 := e12.symm
          subst e21
          obtain ⟨e, he, eb, rfl, heb⟩ := Paired.getL hyt hy
          refine ⟨rfl, _, rfl, eb, _, _, _, rfl, rfl, .inl (.inl (k.im.tup heb)), rfl, push2 _ _ Kp.refl ?_⟩
          have g1 : (wd1 (sl.take i))[j]? = some e.1 := by unfold wd1; rw [List.getElem?_map, he]; rfl
          rw [List.take_add_one, g1]
          unfold txs
          rw [List.map_append]
          rfl
        intro H9 us k9 eD9 t9
        subst t9
        have hwl : (wd1 (sl.take i)).length = i := by unfold wd1; rw [List.length_map, List.length_take]; omega
        rw [List.take_of_length_le (by omega)] at eD9
        refine ⟨D2, _, rfl, .inl (.inl (.inl eD9)), rfl, txs_flat _, _, rfl, ?_⟩
        show if (!inV (.str (tx en1.1)) (txs (wd1 (sl.take i)))) = true then _ else _
        rw [inV_txs]
        have s69 : Same H6 H9 := s67.trans (s8.trans k9.toSame)
        have hfi : freshI sl (i + 1) = if en1.1 ∈ wd1 (sl.take i) then freshI sl i else freshI sl i ++ [en1] := by
          show (match sl[i]? with
            | some e => if e.1 ∈ wd1 (sl.take i) then freshI sl i else freshI sl i ++ [e]
            | none => freshI sl i) = _
          rw [hen1]
        by_cases hin : en1.1 ∈ wd1 (sl.take i)
        · refine iteND hin ?_
          refine skip _ (Kp.same s69) ?_
          rw [hfi, if_pos hin]
          exact hzs.im (Imm.of_same s69)
        · refine iteNDn hin ?_
          refine ⟨_, rfl, push _ _ (Kp.same s69) ?_⟩
          rw [hfi, if_neg hin]
          have i9 : Imm H9 (upd H9 D1 (.lst (zs ++ [.ref ea]))) := Imm.wr (s69 _ _ eD1) (fun z => z)
          exact Paired.snoc ⟨ea, rfl, i9.tup ((s58.trans k9.toSame) _ _ hea)⟩ (hzs.im ((Imm.of_same s69).trans i9))
      · intro H6 zs k6 eD6 hzs
        rw [hyl, ← hfr] at hzs
        have s46 : Same H4 H6 := k5.toSame.trans k6.toSame
        have C6 := C4.same s46
        have D6 := D4.same s46
        refine fun c2 nc2 => ?_
        have s7 := same_upd (o := .dK []) nc2
        have hc7 : (upd H6 c2 (.dK [])) c2 = some (.dK []) := upd_same
        have C7 := C6.same s7
        refine ⟨_, rfl, c, _, rfl, C7.gL, _, rfl, c, _, rfl, C7.gP, _, rfl, hc7, csKV lt pt D1, rfl, by show 3 ≤ 15; omega, ?_⟩
        rw [csM]
        have D7 := D6.same s7
        have k7 : Kp (dA d a1) H (upd H6 c2 (.dK [])) := k4.trans ((Kp.same s46).trans (Kp.same s7))
        have nc0 : H c2 = none := D6.fr (k4.trans (Kp.same s46)) nc2
        have nd0 : H D1 = none := D4.fr k4 (by
          cases e9 : H4 D1 with
          | none => rfl
          | some o => rw [k5.toSame _ _ e9] at hD1; cases hD1)
        have hD7 := s7 _ _ eD6
        generalize (upd H6 c2 (.dK [])) = H7 at s7 hc7 C7 D7 k7 hD7 ⊢
        have nDc : D1 ≠ c2 := ne_of hD7 hc7 (by intro z; cases z)
        have nlc : lt ≠ c2 := ne_of C7.hl hc7 (by intro z; cases z)
        have i8 : Imm H7 (upd H7 c2 (.dK (csKV lt pt D1))) := Imm.wr hc7 (fun z => z)
        have es1 : es.length ≥ 1 := List.length_pos_iff.mpr hes
        refine ⟨c2, lt, pt, D1, cs, p, freshL sl, _, _, _, _, _, _, _, _, by omega, rfl, k7.bk nc0 hc7 (fun z => z), D7.bk D nc0 hc7 (fun z => z), ⟨upd_same, (upd_ne nlc).trans C7.hl, i8.tup C7.hp, ⟨zs, (upd_ne nDc).trans hD7, hzs.im ((Imm.of_same s7).trans i8)⟩, C7.abc, C7.few, C7.pok, hsh.1⟩, nc0, nl, nd0⟩
end
end Mw


set_option Elab.async false
set_option linter.all false
set_option maxRecDepth 100000
set_option maxHeartbeats 4000000
set_option pp.maxSteps 600
set_option pp.deepTerms false
namespace Mw
open PySem PySem.Spec PyProof.Rows L2
open C8 (Cal pe_c Mak pe_mk)
theorem scal_ans (a b : Ans) : scal (ansV a) (ansV b) = true := by
  cases a <;> cases b <;> rfl
theorem ansV_ne (a b : Ans) : decide (ansV a = ansV b) = decide (a = b) := by
  by_cases h : a = b
  · rw [h]; simp
  · rw [decide_eq_false h, decide_eq_false fun z => h (ansV_inj z)]
theorem chg_snoc (a b : Ans) : ∀ l : List Ans, chg (l ++ [a, b]) = chg (l ++ [a]) + if b = a then 0 else 1
  | [] => by show (if b = a then 0 else 1) + 0 = 0 + _; omega
  | [x] => by
    show (if a = x then 0 else 1) + ((if b = a then 0 else 1) + 0) = (if a = x then 0 else 1) + 0 + _
    omega
  | x :: y :: l => by
    have ih := chg_snoc a b (y :: l)
    show (if y = x then 0 else 1) + chg ((y :: l) ++ [a, b]) = (if y = x then 0 else 1) + chg ((y :: l) ++ [a]) + _
    rw [ih]
    omega
theorem chg_take {as : List Ans} {i : Nat} {a b : Ans} (ha : as[i]? = some a) (hb : as[i + 1]? = some b) : chg (as.take (i + 1 + 1)) = chg (as.take (i + 1)) + if b = a then 0 else 1 := by
  rw [List.take_add_one (l := as) (i := i + 1), hb, List.take_add_one, ha, List.append_assoc]
  exact chg_snoc a b _
theorem timesL_cons (t : List Nat) : ∀ n, timesL t (n + 1) = t ++ timesL t n
  | 0 => (List.append_nil _).symm
  | n + 1 => by
    show timesL t (n + 1) ++ t = t ++ (timesL t n ++ t)
    rw [timesL_cons t n, List.append_assoc]
theorem rep_times (t : List Nat) : ∀ n, (List.replicate n t).flatten = timesL t n
  | 0 => rfl
  | n + 1 => by rw [List.replicate_succ, List.flatten_cons, rep_times t n, timesL_cons]
theorem cut_tail (xs : List V) : cutV xs (some 1) none = xs.drop 1 := by
  unfold cutV
  rw [HT.sIx_none, show HT.sIx xs.length 0 (some 1) = min 1 xs.length from HT.sIx_nat _ _ 1]
  cases xs with
  | nil => rfl
  | cons x l =>
    rw [show min 1 (x :: l).length = 1 by rw [List.length_cons]; omega]
    show (l.take (l.length + 1 - 1)) = l
    rw [Nat.add_sub_cancel, List.take_length]
theorem slice_pre (l : List Nat) (j : Nat) : Txt.slice (tx l) none (some (j : Int)) = tx (l.take j) := by
  rw [slice_tx, HT.sIx_none, List.drop_zero, Nat.sub_zero, HT.sIx_nat]
  congr 1
  rcases Nat.le_total j l.length with h | h
  · rw [Nat.min_eq_left h]
  · rw [Nat.min_eq_right h, List.take_length, List.take_of_length_le h]
theorem slice_post (l : List Nat) (j : Nat) : Txt.slice (tx l) (some (j : Int)) none = tx (l.drop j) := by
  rw [slice_tx, HT.sIx_none, HT.sIx_nat]
  congr 1
  rcases Nat.le_total j l.length with h | h
  · rw [Nat.min_eq_left h, List.take_of_length_le (by rw [List.length_drop]; exact Nat.le_refl _)]
  · rw [Nat.min_eq_right h, List.drop_length, List.take_nil, List.drop_of_length_le h]
section
variable {P : Program} {w : World} {K : PySem.W.Frag} {mg : Str → Option Value} {base : Heap}
/-! ### l.told -/
abbrev NLTold : List Str := ["_law_listener_here", "_law_stream", "_law_state", "_law_found", "_law_letter"]
theorem scLTold : FnScope NLTold ["_law_listener_here", "_law_stream"] (defScope sLTold) := ⟨rfl, rfl, rfl, by decide +kernel, rfl, by decide +kernel, by decide +kernel⟩
def spLTold (P : Program) (w : World) (K : PySem.W.Frag) : Sp := fun vs H Q _ => ∃ (a : Addr) (L : Lis) (l : List Nat), vs = [.ref a, .str (tx l)] ∧ ListenerAt K H a L ∧ LisOk L ∧ (∀ c ∈ l, c ∈ alphaL) ∧ l.length ≤ 1000000 ∧
  ∀ H' r, Same H H' → H r = none → H' r = some (.lst ((toldM L (startM L.p L.es) l).map ansV)) → Q (.ref r) H'
theorem oLTold (T : Txt K mg) : Cal P w K mg base 8 "_law_told" (spLTold P w K) [] := by
  refine calD (dLTold_fn T) (gLTold T) scLTold (fun vs H Q E h => ?_) (fun _ _ _ _ _ _ us hl => match us, hl with | [_, _], _ => rfl) (fun cdv A outer s H vs Q E hr h => ?_)
  · obtain ⟨a, L, l, rfl, _⟩ := h
    rfl
  · obtain ⟨a, L, l, rfl, hl, ok, hc, hn, q⟩ := h
    refine ⟨_, PSs.nox (pss_cons (ps_set (i := 2) scLTold.nd rfl (.inl rfl) (pe_c (oHeardState T) hr (by decide) (by rfl) (pa_cons (pv 0) (pa_cons pe_str pa_nil))))
       (pss_cons (ps_set (i := 3) scLTold.nd rfl (.inl rfl) (pe_lst (pa_cons (pe_c (oHeard T) hr (by decide) (by rfl) (pa_cons (pv 0) (pa_cons (pv 2) pa_nil))) pa_nil)))
       (pss_cons (ps_for PassesOwn.never rfl (pi_str (pv 1)) (pg_name (i := 4) scLTold.nd rfl (.inl rfl))
       (pss_cons (ps_set (i := 2) scLTold.nd rfl (.inl rfl) (pe_c (oHeardAfter T) hr (by decide) (by rfl) (pa_cons (pv 0) (pa_cons (pv 2) (pa_cons (pv 4) pa_nil)))))
       (pss_one (ps_expr (pe_bm PySem.F.plainAttrs_list PySem.F.slot_list_append PySem.F.type_list_append mt_append (pv 3) (pa_cons (pe_c (oHeard T) hr (by decide) (by rfl) (pa_cons (pv 0) (pa_cons (pv 2) pa_nil))) pa_nil))))))
       (pss_one (ps_ret (pv 3)))))), ?_⟩
    have hsz : sizeLine = 16777216 := sizeLine_eq
    refine ⟨_, rfl, a, L, [], rfl, hl, ok, (fun c hc => by cases hc), Nat.zero_le _, fun H1 s s1 hs => ?_⟩
    refine ⟨_, rfl, _, rfl, a, L, s, _, rfl, hl.im (Imm.of_same s1), ok, hs, runM_ok startM_ok, fun H2 s2 => ⟨by show 1 ≤ sizeLine; omega, fun f nf => ?_⟩⟩
    have s3 := same_upd (o := .lst [ansV (heardM L (runM L.p L.es (startM L.p L.es) []).row)]) nf
    have s03 := s1.trans (s2.trans s3)
    have nf0 : H f = none := by
      cases e : H f with
      | none => rfl
      | some o => rw [(s1.trans s2) _ _ e] at nf; cases nf
    have hs3 := hs.im (Imm.of_same (s2.trans s3))
    have hf3 : (upd H2 f (.lst [ansV (heardM L (runM L.p L.es (startM L.p L.es) []).row)])) f = some (.lst ((toldM L (startM L.p L.es) (l.take 0)).map ansV)) := upd_same
    generalize (upd H2 f (.lst [ansV (heardM L (runM L.p L.es (startM L.p L.es) []).row)])) = H3 at s03 hs3 hf3 ⊢
    refine ⟨_, rfl, tx l, rfl, for_it walk_str (fun i σ H4 => ∃ s x4, σ = [some (.ref a), some (.str (tx l)), some s, some (.ref f), x4] ∧ Same H H4 ∧ StT H4 s (runM L.p L.es (startM L.p L.es) (l.take i)) ∧ H4 f = some (.lst ((toldM L (startM L.p L.es) (l.take i)).map ansV))) ⟨s, _, rfl, s03, hs3, hf3⟩ (fun _ _ _ _ _ => trivial) ?_ ?_⟩
    · rintro i x σ H4 H5 hi ⟨s', x4, rfl, s4, hs4, hf4⟩ ⟨e45, c, hc2, rfl⟩
      have e54 := e45.symm
      subst e54
      have hlc : l[i]? = some c := by simpa using hc2
      have hil := (List.getElem?_eq_some_iff.mp hlc).1
      refine ⟨_, rfl, _, rfl, _, rfl, a, L, s', _, c, rfl, hl.im (Imm.of_same s4), ok, hs4, runM_ok startM_ok, hc c (List.mem_of_getElem? hlc), fun H6 r s6 hr => ?_⟩
      have hf6 := s6 _ _ hf4
      refine ⟨_, rfl, .inl ⟨rfl, _, .inl (.inl hf6)⟩, _, rfl, _, rfl, a, L, r, _, rfl, hl.im (Imm.of_same (s4.trans s6)), ok, hr, stepM_ok (runM_ok startM_ok), fun H7 s7 => ?_⟩
      have hf7 := s7 _ _ hf6
      have htl : (toldM L (startM L.p L.es) (l.take i)).length = i + 1 := by rw [toldM_len, List.length_take]; omega
      refine ⟨f, _, _, rfl, rfl, hf7, by rw [List.length_map, htl]; omega, ?_⟩
      have i8 := Imm.wr (o := .lst ((toldM L (startM L.p L.es) (l.take i)).map ansV ++ [ansV (heardM L (stepM L.p L.es (runM L.p L.es (startM L.p L.es) (l.take i)) c).row)])) hf7 (fun z => z)
      have erun : runM L.p L.es (startM L.p L.es) (l.take (i + 1)) = stepM L.p L.es (runM L.p L.es (startM L.p L.es) (l.take i)) c := by
        rw [List.take_add_one, hlc, runM_app]
        rfl
      refine ⟨r, _, rfl, Same.wr (s4.trans (s6.trans s7)) nf0, ?_, ?_⟩
      · rw [erun]
        exact hr.im ((Imm.of_same s7).trans i8)
      · rw [upd_same, List.take_add_one, hlc]
        show _ = some (HO.lst ((toldM L (startM L.p L.es) (l.take i ++ [c])).map ansV))
        rw [toldM_snoc, List.map_append]
        have e2 : runM L.p L.es (startM L.p L.es) (l.take i ++ [c]) = stepM L.p L.es (runM L.p L.es (startM L.p L.es) (l.take i)) c := by rw [runM_app]; rfl
        rw [e2]
        rfl
    · rintro σ H4 ⟨s', x4, rfl, s4, hs4, hf4⟩
      rw [List.take_of_length_le (by simp)] at hf4
      exact ⟨_, rfl, q H4 f s4 nf0 hf4⟩
/-! ### l.rows -/
abbrev NLRows : List Str := ["_law_machine", "_law_stream", "_law_found", "_law_letter"]
theorem scLRows : FnScope NLRows ["_law_machine", "_law_stream"] (defScope sLRows) := ⟨rfl, rfl, rfl, by decide +kernel, rfl, by decide +kernel, by decide +kernel⟩
def spLRows (P : Program) (w : World) (K : PySem.W.Frag) : Sp := fun vs H Q _ => ∃ (m : Addr) (rows : List MRow) (l : List Nat), vs = [.ref m, .str (tx l)] ∧ MachineAt K H m rows ∧ RowsOk rows ∧ 0 < rows.length ∧ (∀ c ∈ l, c ∈ alphaL) ∧ l.length ≤ 1000000 ∧
  ∀ H' r, Same H H' → H r = none → H' r = some (.lst (natV (rowsP rows 0 l))) → Q (.ref r) H'
theorem oLRows (T : Txt K mg) : Cal P w K mg base 3 "_law_rows" (spLRows P w K) [] := by
  refine calD (dLRows_fn T) (gLRows T) scLRows (fun vs H Q E h => ?_) (fun _ _ _ _ _ _ us hl => match us, hl with | [_, _], _ => rfl) (fun cdv A outer s H vs Q E hr h => ?_)
  · obtain ⟨m, rows, l, rfl, _⟩ := h
    rfl
  · obtain ⟨m, rows, l, rfl, hm, rok, hr0, hc, hn, q⟩ := h
    refine ⟨_, PSs.nox (pss_cons (ps_set (i := 2) scLRows.nd rfl (.inl rfl) (pe_lst (pa_cons pe_int pa_nil)))
       (pss_cons (ps_for PassesOwn.never rfl (pi_str (pv 1)) (pg_name (i := 3) scLRows.nd rfl (.inl rfl))
       (pss_one (ps_expr (pe_bm PySem.F.plainAttrs_list PySem.F.slot_list_append PySem.F.type_list_append mt_append (pv 2) (pa_cons (pe_ix (kIxT K rfl) (pe_ix (kIxT K rfl) (pe_ix (kIxT K rfl) (pe_pRows T hr (by decide) (pv 0)) (pe_ix (kIxL K rfl) (pv 2) (pe_un un_neg pe_int) (fun _ _ => rfl)) (fun _ _ => rfl)) pe_int (fun _ _ => rfl)) (pe_bm PySem.F.plainAttrs_str PySem.F.slot_str_index PySem.F.type_str_index mt_indexA pe_str (pa_cons (pv 3) pa_nil)) (fun _ _ => rfl)) pa_nil)))))
       (pss_one (ps_ret (pv 2))))), ?_⟩
    have hsz : sizeLine = 16777216 := sizeLine_eq
    refine ⟨by show 1 ≤ sizeLine; omega, fun f nf => ?_⟩
    have s3 := same_upd (o := .lst [.int 0]) nf
    have hf3 : (upd H f (.lst [.int 0])) f = some (.lst (natV (rowsP rows 0 (l.take 0)))) := upd_same
    generalize (upd H f (.lst [.int 0])) = H3 at s3 hf3 ⊢
    refine ⟨_, rfl, tx l, rfl, for_it walk_str (fun i σ H4 => ∃ x3, σ = [some (.ref m), some (.str (tx l)), some (.ref f), x3] ∧ Same H H4 ∧ H4 f = some (.lst (natV (rowsP rows 0 (l.take i))))) ⟨_, rfl, s3, hf3⟩ (fun _ _ _ _ _ => trivial) ?_ ?_⟩
    · rintro i x σ H4 H5 hi ⟨x3, rfl, s4, hf4⟩ ⟨e45, c, hc2, rfl⟩
      have e54 := e45.symm
      subst e54
      have hlc : l[i]? = some c := by simpa using hc2
      have hil := (List.getElem?_eq_some_iff.mp hlc).1
      have hca := hc c (List.mem_of_getElem? hlc)
      obtain ⟨a1, a2, a3⟩ := alpha_mem hca
      obtain ⟨dm, rt, vs, hm1, hrt, hrows⟩ := hm.im (Imm.of_same s4)
      have hct : ∀ d ∈ l.take i, d ∈ alphaL := fun d hd => hc d (List.mem_of_mem_take hd)
      have hr := rok.path hr0 hct
      have hne : rowsP rows 0 (l.take i) ≠ [] := fun z => by
        have := rowsP_len (rows := rows) (t := l.take i) (r := 0)
        rw [z] at this
        simp at this
      have hlast : atI (natV (rowsP rows 0 (l.take i))) (-1) = some (.int ((rowPath rows 0 (l.take i) : Nat) : Int)) := by
        rw [natV_int]
        have h1 := lastI (ns := (rowsP rows 0 (l.take i)).map fun (n : Nat) => (n : Int)) (by intro z; exact hne (List.map_eq_nil_iff.mp z))
        rw [h1]
        congr 2
        rw [← rowsP_last]
        have : ∀ t : List Nat, t ≠ [] → (t.map fun (n : Nat) => (n : Int)).getLastD 0 = ((t.getLastD 0 : Nat) : Int) := fun t ht => by
          rw [List.getLastD_eq_getLast?, List.getLastD_eq_getLast?, List.getLast?_map]
          cases t.getLast? with
          | none => rfl
          | some y => rfl
        exact this _ hne
      have hgr := List.getElem?_eq_getElem hr
      obtain ⟨rv, hrv, b, bt, rfl, hb, hbt⟩ := Paired.get hrows hgr
      have hrl := rok.len _ (List.getElem_mem hr)
      refine ⟨_, rfl, .inl ⟨rfl, _, .inl (.inl hf4)⟩, .ref m, rfl, gp hm1 rfl ?_⟩
      refine ⟨_, rfl, _, rfl, f, _, _, _, rfl, rfl, .inl (.inl hf4), hlast, rt, _, _, _, rfl, rfl, .inl (.inl hrt), atI_nat hrv, b, _, _, _, rfl, rfl, .inl (.inl hb), rfl, ?_⟩
      have hrw : rows.getD (rowPath rows 0 (l.take i)) (none, []) = rows[rowPath rows 0 (l.take i)] := by rw [List.getD_eq_getElem?_getD, hgr]; rfl
      refine ⟨rfl, _, rfl, c - 97, rfl, by rw [show 97 + (c - 97) = c by omega], a2, bt, _, _, _, rfl, rfl, .inl (.inl hbt), natI (j := c - 97) (by omega), ?_⟩
      refine ⟨f, _, _, rfl, rfl, hf4, by unfold natV; rw [List.length_map, rowsP_len, List.length_take]; omega, ?_⟩
      refine ⟨_, rfl, Same.wr s4 nf, ?_⟩
      rw [upd_same, List.take_add_one, hlc]
      show _ = some (HO.lst (natV (rowsP rows 0 (l.take i ++ [c]))))
      rw [rowsP_snoc, rowPath_snoc]
      unfold natV
      rw [List.map_append]
      show some (HO.lst (_ ++ [V.int ((((rows[rowPath rows 0 (l.take i)]).2.getD (c - 97) 0 : Nat)) : Int)])) = some (HO.lst (_ ++ [V.int ((rowGo rows (rowPath rows 0 (l.take i)) c : Nat) : Int)]))
      unfold rowGo
      rw [hrw]
    · rintro σ H4 ⟨x3, rfl, s4, hf4⟩
      rw [List.take_of_length_le (by simp)] at hf4
      exact ⟨_, rfl, q H4 f s4 nf hf4⟩
/-! ### l.changes -/
abbrev NLChanges : List Str := ["_law_said", "_law_one", "_law_other"]
theorem scLChanges : FnScope NLChanges ["_law_said"] (defScope sLChanges) := ⟨rfl, rfl, rfl, by decide +kernel, rfl, by decide +kernel, by decide +kernel⟩
def spLChanges (P : Program) (w : World) (K : PySem.W.Frag) : Sp := fun vs H Q _ => ∃ (a : Addr) (as : List Ans), vs = [.ref a] ∧ H a = some (.lst (as.map ansV)) ∧ as.length ≤ 900000 ∧ ∀ H', Same H H' → Q (.int ((chg as : Nat) : Int)) H'
theorem oLChanges (T : Txt K mg) : Cal P w K mg base 1 "_law_changes" (spLChanges P w K) [] := by
  refine calD (dLChanges_fn T) (gLChanges T) scLChanges (fun vs H Q E h => ?_) (fun _ _ _ _ _ _ us hl => match us, hl with | [_], _ => rfl) (fun cdv A outer s H vs Q E hr h => ?_)
  · obtain ⟨a, as, rfl, _⟩ := h
    rfl
  · obtain ⟨a, as, rfl, ha, hn, q⟩ := h
    refine ⟨_, PSs.nox (pss_one (ps_ret (pe_callB (kLen K rfl) (by rfl) (f_len T) (by decide +kernel) (pa_cons (pe_lc (own := [("_law_one", 1), ("_law_other", 2)]) (g := gTup K 2 (gCons (gName 1) (gCons (gName 2) gNil))) rfl scLChanges.nd (pi_zip (by rfl) (f_zip T) (pa_cons (pv 0) (pa_cons (pe_slice (kSlL K rfl) (pv 0) (po_some pe_int) po_none) pa_nil))) (blkOk_by (own := [("_law_one", 1), ("_law_other", 2)]) (N := NLChanges) (sc := defScope sLChanges) (by decide +kernel)) (fun _ _ _ _ _ => (pg_tup rfl (pgs_cons (pg_name (i := 1) scLChanges.nd rfl (.inl rfl)) (pgs_cons (pg_name (i := 2) scLChanges.nd rfl (.inl rfl)) pgs_nil)))) (fun _ _ _ _ _ => (pts_one (pt_cmpR op_ne (pv 1) (pv 2) (nomark _)))) (fun _ _ _ _ _ => pe_int)) pa_nil)))), ?_⟩
    have hsz : sizeLine = 16777216 := sizeLine_eq
    refine ⟨_, rfl, _, rfl, 1, rfl, a, _, rfl, .inl (.inl ha), fun p np => ?_⟩
    have s2 := same_upd (o := .lst (cutV (as.map ansV) (some 1) none)) np
    have hp2 : (upd H p (.lst (cutV (as.map ansV) (some 1) none))) p = some (.lst ((as.drop 1).map ansV)) := by
      rw [upd_same, cut_tail, List.map_drop]
    generalize (upd H p (.lst (cutV (as.map ansV) (some 1) none))) = H2 at s2 hp2 ⊢
    have ha2 := s2 _ _ ha
    refine ⟨a, p, _, _, rfl, .inl (.inl ha2), .inl (.inl hp2), fun D hD => lc_gen (walk_zip (n := as.length - 1) (by rw [List.length_map, List.length_map, List.length_drop]; omega)) noA (fun i ys H => ys = List.replicate (chg (as.take (i + 1))) (.int 1)) hD id (by omega) (fun i ys H _ k _ => ⟨.inl (.inl (k.toSame _ _ ha2)), .inl (.inl (k.toSame _ _ hp2))⟩) ?_ ?_ ?_⟩
    · cases as with
      | nil => rfl
      | cons x l => rfl
    · rintro i x H3 H4 ys hi k rfl ⟨T', y1, y2, rfl, nT, rfl, e1, e2⟩ eD push skip
      obtain ⟨b1, hb1, rfl⟩ : ∃ b, as[i]? = some b ∧ ansV b = y1 := by
        change (as.map ansV)[i]? = some y1 at e1
        rw [List.getElem?_map] at e1
        obtain ⟨z, hz, e⟩ := Option.map_eq_some_iff.mp e1
        exact ⟨z, hz, e⟩
      obtain ⟨b2, hb2, rfl⟩ : ∃ b, as[i + 1]? = some b ∧ ansV b = y2 := by
        change ((as.drop 1).map ansV)[i]? = some y2 at e2
        rw [List.getElem?_map, List.getElem?_drop] at e2
        obtain ⟨z, hz, e⟩ := Option.map_eq_some_iff.mp e2
        exact ⟨z, by rw [Nat.add_comm]; exact hz, e⟩
      have hct := chg_take hb1 hb2
      refine ⟨T', _, rfl, .inl (.inl upd_same), rfl, _, _, rfl, _, _, rfl, rfl, rfl, ?_⟩
      refine ⟨_, rfl, _, rfl, scal_ans _ _, _, rfl, ?_⟩
      rw [ansV_ne]
      by_cases hb : b1 = b2
      · refine iteND hb ?_
        refine skip _ (Kp.new nT) ?_
        rw [hct, if_pos hb.symm]
        rfl
      · refine iteNDn hb ?_
        refine push _ _ (Kp.new nT) ?_
        rw [hct, if_neg fun z => hb z.symm, List.replicate_succ']
    · intro H3 ys k eD t
      subst t
      have hlen : chg (as.take (as.length - 1 + 1)) = chg as := by
        cases as with
        | nil => rfl
        | cons x l => rw [List.take_of_length_le (by simp)]
      refine ⟨D, _, rfl, .inl (.inl (.inl eD)), ?_⟩
      rw [List.length_replicate, hlen]
      exact q H3 (s2.trans k.toSame)
/-! ### l.long -/
abbrev NLLong : List Str := ["_law_draw", "_law_case_here", "_law_ring", "_law_stream", "_law_turn", "_law_at"]
theorem scLLong : FnScope NLLong ["_law_draw", "_law_case_here"] (defScope sLLong) := ⟨rfl, rfl, rfl, by decide +kernel, rfl, by decide +kernel, by decide +kernel⟩
def spLLong (P : Program) (w : World) (K : PySem.W.Frag) : Sp := fun vs H Q _ => ∃ (d a1 a2 c lt pt en : Addr) (cs : List Nat) (p : Pr) (es : List Ent), vs = [.ref d, .ref c] ∧ Draw H d a1 a2 ∧ CaseAt H c lt pt en cs p es ∧ Far d a1 c lt en ∧
  ∀ H' t, Kp (dA d a1) H H' → Draw H' d a1 a2 → t.length ≤ 10000 → (∀ x ∈ t, x ∈ alphaL) → Q (.str (tx t)) H'
theorem oLLong (T : Txt K mg) : Cal P w K mg base 5 "_law_long" (spLLong P w K) [] := by
  refine calD (dLLong_fn T) (gLLong T) scLLong (fun vs H Q E h => ?_) (fun _ _ _ _ _ _ us hl => match us, hl with | [_, _], _ => rfl) (fun cdv A outer s H vs Q E hr h => ?_)
  · obtain ⟨d, a1, a2, c, lt, pt, en, cs, p, es, rfl, _⟩ := h
    rfl
  · obtain ⟨d, a1, a2, c, lt, pt, en, cs, p, es, rfl, D, C, far, q⟩ := h
    have hu := hu_of hr
    refine ⟨_, PSs.nox (pss_cons (ps_set (i := 2) scLLong.nd rfl (.inl rfl) (pe_c (oLString T) hr (by decide) (by rfl) (pa_cons (pv 0) (pa_cons (pe_op op_cat (pe_dget hu (pv 1) pe_str (fun _ _ => rfl)) (pe_lst (pa_cons (pe_c (oLOtherLetter T) hr (by decide) (by rfl) (pa_cons (pv 1) pa_nil)) pa_nil))) (pa_cons pe_int (pa_cons pe_int pa_nil))))))
       (pss_cons (ps_set (i := 3) scLLong.nd rfl (.inl rfl) (pe_op op_mulS (pv 2) pe_int))
       (pss_cons (ps_for PassesOwn.never rfl (pi_range1 (by rfl) (f_range T) (pa_cons (pe_c (oLTake T) hr (by decide) (by rfl) (pa_cons (pv 0) (pa_cons pe_int pa_nil))) pa_nil)) (pg_name (i := 4) scLLong.nd rfl (.inl rfl))
       (pss_cons (ps_set (i := 5) scLLong.nd rfl (.inl rfl) (pe_c (oLTake T) hr (by decide) (by rfl) (pa_cons (pv 0) (pa_cons (pe_callB call_len_str (by rfl) (f_len T) (by decide +kernel) (pa_cons (pv 3) pa_nil)) pa_nil))))
       (pss_one (ps_set (i := 3) scLLong.nd rfl (.inl rfl) (pe_op op_add_str (pe_op op_add_str (pe_slice C8.sl_txt (pv 3) po_none (po_some (pv 5))) (pe_c (oLText T) hr (by decide) (by rfl) (pa_cons (pv 0) (pa_cons (pv 1) (pa_cons pe_int pa_nil))))) (pe_slice C8.sl_txt (pv 3) (po_some (pv 5)) po_none))))))
       (pss_one (ps_ret (pe_slice C8.sl_txt (pv 3) po_none (po_some (pe_c (oLTake T) hr (by decide) (by rfl) (pa_cons (pv 0) (pa_cons pe_int pa_nil)))))))))), ?_⟩
    have hsz : sizeLine = 16777216 := sizeLine_eq
    have few := C.few
    refine ⟨_, rfl, _, rfl, c, _, rfl, C.gL, _, rfl, c, lt, pt, en, cs, p, es, rfl, C, fun H2 o s2 ho => ⟨by show 1 ≤ sizeLine; omega, fun l2 nl2 => ?_⟩⟩
    have s3 := same_upd (o := .lst [.str (tx [o])]) nl2
    refine ⟨lt, l2, _, _, rfl, rfl, s3 _ _ (s2 _ _ C.hl), upd_same, by rw [sgs_len]; simp; omega, fun l4 nl4 => ?_⟩
    have s04 : Same H _ := s2.trans (s3.trans (same_upd (o := .lst (sgs cs ++ [.str (tx [o])])) nl4))
    have hall : ∀ x ∈ cs ++ [o], x ∈ alphaL := fun x hx => (List.mem_append.mp hx).elim (C.abc x) fun y => by rw [List.mem_singleton.mp y]; exact ho
    refine ⟨d, a1, a2, l4, cs ++ [o], 1, 5, rfl, D.same s04, by rw [upd_same, sgs_snoc], fun z => (D.same (s2.trans s3)).ne0 nl4 (.inr z), by simp, by simp; omega, by decide, by decide, fun H5 ring k5 D5 h1 h2 h3 => ?_⟩
    refine ⟨_, rfl, ring, 100, rfl, rfl, by omega, by decide, by decide, ?_⟩
    rw [show (100 : Int).toNat = 100 from rfl, rep_times]
    have l0 := timesL_len ring 100
    have al0 : ∀ x ∈ timesL ring 100, x ∈ alphaL := fun x hx => hall x (h3 x (timesL_mem hx))
    have k05 : Kp (dA d a1) H H5 := (Kp.same s04).trans k5
    generalize timesL ring 100 = st0 at l0 al0 ⊢
    refine ⟨_, rfl, d, a1, a2, 6, rfl, D5, by decide, by decide, fun H6 kk k6 D6 hkk => ⟨_, rfl, by omega, by omega, ?_⟩⟩
    have hcount : ((kk : Nat) : Int).toNat = kk := by omega
    refine for_it walk_range (fun i σ H7 => ∃ x4 x5 st, σ = [some (.ref d), some (.ref c), some (.str (tx ring)), some (.str (tx st)), x4, x5] ∧ Kp (dA d a1) H H7 ∧ Draw H7 d a1 a2 ∧ 1 ≤ st.length ∧ st.length ≤ 500 + 6 * i ∧ ∀ x ∈ st, x ∈ alphaL) ⟨_, _, st0, rfl, k05.trans k6, D6, by omega, by omega, al0⟩ (fun _ _ _ _ _ => trivial) ?_ ?_
    · rintro i x σ H7 H8 hi ⟨x4, x5, st, rfl, k7, D7, l1, l2, al⟩ ⟨e78, ex⟩
      have e87 := e78.symm
      subst e87
      have hi2 : i < kk := by omega
      have hstl := tx_len st
      refine ⟨_, rfl, _, rfl, _, rfl, by omega, d, a1, a2, st.length, by rw [hstl]; rfl, D7, l1, by omega, fun H9 k k9 D9 hk => ?_⟩
      have C9 := (C.draw far k7).draw far k9
      refine ⟨_, rfl, _, rfl, _, rfl, _, rfl, by omega, ?_⟩
      rw [slice_pre]
      refine ⟨_, rfl, _, rfl, d, a1, a2, c, lt, pt, en, cs, p, es, 6, rfl, D9, C9, by decide, fun HA t kA DA ht hta => ?_⟩
      refine ⟨_, _, rfl, rfl, by rw [tx_len, tx_len, List.length_take]; omega, ?_⟩
      rw [tx_app]
      refine ⟨_, rfl, _, rfl, _, rfl, _, rfl, by omega, ?_⟩
      rw [slice_post]
      refine ⟨_, _, rfl, rfl, by rw [tx_len, tx_len, List.length_append, List.length_take, List.length_drop]; omega, ?_⟩
      rw [tx_app]
      refine ⟨_, _, st.take k ++ t ++ st.drop k, rfl, (k7.trans k9).trans kA, DA, ?_, ?_, fun x hx => ?_⟩
      · rw [List.length_append, List.length_append, List.length_take, List.length_drop]; omega
      · rw [List.length_append, List.length_append, List.length_take, List.length_drop]; omega
      · rcases List.mem_append.mp hx with y | y
        · rcases List.mem_append.mp y with z | z
          · exact al x (List.mem_of_mem_take z)
          · exact hta x z
        · exact al x (List.mem_of_mem_drop y)
    · rintro σ H7 ⟨x4, x5, st, rfl, k7, D7, l1, l2, al⟩
      have hstl := tx_len st
      refine ⟨_, rfl, _, rfl, d, a1, a2, 401, rfl, D7, by decide, by decide, fun H8 k k8 D8 hk => ⟨_, rfl, _, rfl, by omega, ?_⟩⟩
      rw [slice_pre]
      exact q H8 _ (k7.trans k8) D8 (by rw [List.length_take]; omega) fun x hx => al x (List.mem_of_mem_take hx)
end
end Mw


set_option Elab.async false
set_option linter.all false
set_option maxRecDepth 100000
set_option maxHeartbeats 4000000
set_option pp.maxSteps 600
set_option pp.deepTerms false
namespace Mw
open PySem PySem.Spec PyProof.Rows L2
open C8 (Cal pe_c Mak pe_mk)
/-- every tuple of a row begins with 0 -/
def Zero (es : List Ent) (s : Sta) : Prop := ∀ i, i < es.length → (s.row.getD i []).getD 0 0 = 0
theorem zero_start {p : Pr} {es : List Ent} : Zero es (startM p es) := fun i hi => by
  rw [start_get hi (Nat.zero_le _)]
  simp
theorem zero_step {p : Pr} {es : List Ent} {s : Sta} {c : Nat} (h : Zero es s) : Zero es (stepM p es s c) := fun i hi => by
  have e : (stepM p es s c).row.getD i [] = nextW p (es.getD i ([], 0)).1 (s.row.getD i []) (s.mem.map fun m => (m.1.getD i [], m.2)) c := by
    unfold stepM
    rw [List.getD_eq_getElem?_getD, List.getElem?_map, List.getElem?_range hi]
    rfl
  rw [e, nextW_get (Nat.zero_le _)]
  exact h i hi
theorem abc_iff {es : List Ent} (ok : EntsOk es) {c : Nat} : c ∈ abc es ↔ c ∈ es.flatMap (·.1) := ⟨fun h => (mem_letters.mp h).2, fun h => mem_letters.mpr ⟨ents_abc ok c h, h⟩⟩
theorem swaps_no {p : Pr} {w : List Nat} {eld : Option (List Int × Nat)} {c j : Nat} (h : p.sw = none) : swaps p w eld c j = [] := by
  unfold swaps
  rw [h]
  cases eld <;> rfl
theorem swaps_if {p : Pr} {w : List Nat} {e : List Int} {d c j : Nat} {s : Int} (h : p.sw = some s) : swaps p w (some (e, d)) c j = if 1 ≤ j ∧ d ≠ c ∧ w.getD (j - 1) 0 = c ∧ w.getD j 0 = d then [e.getD (j - 1) 0 + s] else [] := by
  unfold swaps
  rw [h]
theorem slice_two {w : List Nat} {i : Nat} (i1 : 1 ≤ i) (hi : i < w.length) : Txt.slice (tx w) (some (1 + (i : Int) - 2)) (some (1 + (i : Int))) = tx [w.getD (i - 1) 0, w.getD i 0] := by
  rw [show (1 + (i : Int) - 2) = ((i - 1 : Nat) : Int) by omega, show (1 + (i : Int)) = ((i + 1 : Nat) : Int) by omega, slice_mid (by omega) (by omega)]
  congr 1
  rw [show i + 1 - (i - 1) = 2 by omega, List.drop_eq_getElem_cons (show i - 1 < w.length by omega), List.drop_eq_getElem_cons (show i - 1 + 1 < w.length by omega)]
  have e1 : w.getD (i - 1) 0 = w[i - 1] := by rw [List.getD_eq_getElem?_getD, List.getElem?_eq_getElem (by omega)]; rfl
  have e2 : w.getD i 0 = w[i - 1 + 1] := by
    rw [List.getD_eq_getElem?_getD, List.getElem?_eq_getElem (by omega)]
    show w[i] = _
    congr 1
    omega
  rw [e1, e2]
  rfl
section
variable {P : Program} {w : World} {K : PySem.W.Frag} {mg : Str → Option Value} {base : Heap}
/-! ### l.step -/
abbrev NLStep : List Str := ["_law_case_here", "_law_state", "_law_letter", "_law_further", "_law_lack", "_law_fault", "_law_turned", "_law_found", "_law_at", "_law_word", "_law_own", "_law_here", "_law_line", "_law_j", "_law_some", "_law_used", "_law_entry"]
theorem scLStep : FnScope NLStep ["_law_case_here", "_law_state", "_law_letter"] (defScope sLStep) := ⟨rfl, rfl, rfl, by decide +kernel, rfl, by decide +kernel, by decide +kernel⟩
def spLStep (P : Program) (w : World) (K : PySem.W.Frag) : Sp := fun vs H Q _ => ∃ (cd lt pt en : Addr) (cs : List Nat) (p : Pr) (es : List Ent) (v : V) (s : Sta) (c : Nat), vs = [.ref cd, v, .str (tx [c])] ∧ CaseAt H cd lt pt en cs p es ∧ StT H v s ∧ StaOk p es s ∧ Zero es s ∧
  ∀ H' r, Same H H' → StT H' r (stepM p es s c) → Q r H'
theorem oLStep (T : Txt K mg) : Cal P w K mg base 1 "_law_step" (spLStep P w K) [] := by
  refine calD (dLStep_fn T) (gLStep T) scLStep (fun vs H Q E h => ?_) (fun _ _ _ _ _ _ us hl => match us, hl with | [_, _, _], _ => rfl) (fun cdv A outer s H vs Q E hr h => ?_)
  · obtain ⟨cd, lt, pt, en, cs, p, es, v, s', c, rfl, _⟩ := h
    rfl
  · obtain ⟨cd, lt, pt, en, cs, p, es, v, st, c, rfl, C, ⟨b, r, m, u, rfl, hb, hr1, hm⟩, sok, hz, q⟩ := h
    obtain ⟨vs, hv1, hv2⟩ := C.he
    have ok := C.eok
    have pok := C.pok
    have hu := hu_of hr
    refine ⟨_, PSs.nox (pss_cons (ps_asg (pe_dget hu (pv 0) pe_str (fun _ _ => rfl)) (pg_tup rfl (pgs_cons (pg_name (i := 3) scLStep.nd rfl (.inl rfl)) (pgs_cons (pg_name (i := 4) scLStep.nd rfl (.inl rfl)) (pgs_cons (pg_name (i := 5) scLStep.nd rfl (.inl rfl)) (pgs_cons (pg_name (i := 6) scLStep.nd rfl (.inl rfl)) pgs_nil))))))
       (pss_cons (ps_set (i := 7) scLStep.nd rfl (.inl rfl) (pe_lst pa_nil))
       (pss_cons (ps_for PassesOwn.never rfl (pi_enum (by rfl) (f_enumerate T) (pa_cons (pe_dget hu (pv 0) pe_str (fun _ _ => rfl)) pa_nil)) (pg_tup rfl (pgs_cons (pg_name (i := 8) scLStep.nd rfl (.inl rfl)) (pgs_cons (pg_tup rfl (pgs_cons (pg_name (i := 9) scLStep.nd rfl (.inl rfl)) (pgs_cons (pg_name (i := 10) scLStep.nd rfl (.inl rfl)) pgs_nil))) pgs_nil)))
       (pss_cons (ps_par (i := 11) (j := 12) (by rfl) scLStep.nd rfl rfl (by decide) rfl rfl (pa_cons (pe_ix (kIxT K rfl) (pe_ix (kIxT K rfl) (pv 1) pe_int (fun _ _ => rfl)) (pv 8) (fun _ _ => rfl)) (pa_cons (pe_lst (pa_cons pe_int pa_nil)) pa_nil)) (by rfl))
       (pss_cons (ps_for PassesOwn.never rfl (pi_range2 (by rfl) (f_range T) (pa_cons pe_int (pa_cons (pe_op op_add (pe_callB call_len_str (by rfl) (f_len T) (by decide +kernel) (pa_cons (pv 9) pa_nil)) pe_int) pa_nil))) (pg_name (i := 13) scLStep.nd rfl (.inl rfl))
       (pss_cons (ps_set (i := 14) scLStep.nd rfl (.inl rfl) (pe_lst (pa_cons (pe_op op_add (pe_ix (kIxT K rfl) (pv 11) (pv 13) (fun _ _ => rfl)) (pv 3)) (pa_cons (pe_op op_add (pe_ix (kIxL K rfl) (pv 12) (pe_op op_sub (pv 13) pe_int) (fun _ _ => rfl)) (pv 4)) pa_nil))))
       (pss_cons (ps_expr (pe_bm PySem.F.plainAttrs_list PySem.F.slot_list_append PySem.F.type_list_append mt_append (pv 14) (pa_cons (pe_op op_add (pe_ix (kIxT K rfl) (pv 11) (pe_op op_sub (pv 13) pe_int) (fun _ _ => rfl)) (pe_cutE (pe_ifExp (pt_cmpR op_eq (pe_ix ix_str (pv 9) (pe_op op_sub (pv 13) pe_int) (fun _ _ => rfl)) (pv 2) (nomark _)) pe_int (pv 5)))) pa_nil)))
       (C8.pss_cut (ps_if (PW.pt (pw_and (pt_cmpR op_notN (pv 6) pe_non (nomark _)) (pw_and (pt_cmpR op_gt (pv 13) pe_int (nomark _)) (pw_and (pt_cmpR (kNeD K rfl hr.units) (pe_ix (kIxT K rfl) (pv 1) pe_int (fun _ _ => rfl)) (pe_tup pa_nil) (nomark _)) (pw_and1 (pt_cmpR op_ne (pv 2) (pe_ix (kIxT K rfl) (pv 1) pe_int (fun _ _ => rfl)) (nomark _)))))))
       (pss_one (ps_if (pt_cmpR op_eq (pe_slice C8.sl_txt (pv 9) (po_some (pe_op op_sub (pv 13) pe_int)) (po_some (pv 13))) (pe_op op_add_str (pv 2) (pe_ix (kIxT K rfl) (pv 1) pe_int (fun _ _ => rfl))) (nomark _))
       (pss_one (ps_expr (pe_bm PySem.F.plainAttrs_list PySem.F.slot_list_append PySem.F.type_list_append mt_append (pv 14) (pa_cons (pe_op op_add (pe_ix (kIxT K rfl) (pe_ix (kIxT K rfl) (pe_ix (kIxT K rfl) (pv 1) pe_int (fun _ _ => rfl)) (pv 8) (fun _ _ => rfl)) (pe_op op_sub (pv 13) pe_int) (fun _ _ => rfl)) (pv 6)) pa_nil))))
       pss_nil))
       pss_nil)
       (pss_one (ps_expr (pe_bm PySem.F.plainAttrs_list PySem.F.slot_list_append PySem.F.type_list_append mt_append (pv 12) (pa_cons (pe_callB (kMin K rfl rfl) (by rfl) (f_min T) (by decide +kernel) (pa_cons (pv 14) pa_nil)) pa_nil))))))))
       (pss_one (ps_expr (pe_bm PySem.F.plainAttrs_list PySem.F.slot_list_append PySem.F.type_list_append mt_append (pv 7) (pa_cons (pe_callTy (kTup K rfl) (by rfl) (f_tuple T) (by decide +kernel) (pa_cons (pv 12) pa_nil)) pa_nil)))))))
       (pss_cons (ps_set (i := 15) scLStep.nd rfl (.inl rfl) (kJoin K rfl pe_str (pe_lc (own := [("_law_entry", 16)]) (g := gName 16) rfl scLStep.nd (kPiL K rfl (pe_dget hu (pv 0) pe_str (fun _ _ => rfl))) (blkOk_by (own := [("_law_entry", 16)]) (N := NLStep) (sc := defScope sLStep) (by decide +kernel)) (fun _ _ _ _ _ => (pg_name (i := 16) scLStep.nd rfl (.inl rfl))) (fun _ _ _ _ _ => pts_nil) (fun _ _ _ _ _ => (pe_ix (kIxT K rfl) (pv 16) pe_int (fun _ _ => rfl))))))
       (pss_cons (ps_if (PW.pt (pw_or (pt_cmpR op_isN (pv 6) pe_non (nomark _)) (pw_or1 (pt_cmpR op_notIn_sign (pv 2) (pv 15) (by rfl)))))
       (pss_one (ps_ret (pe_tup (pa_cons (pe_callTy (kTup K rfl) (by rfl) (f_tuple T) (by decide +kernel) (pa_cons (pv 7) pa_nil)) (pa_cons (pe_tup pa_nil) (pa_cons pe_str pa_nil))))))
       pss_nil)
       (pss_one (ps_ret (pe_tup (pa_cons (pe_callTy (kTup K rfl) (by rfl) (f_tuple T) (by decide +kernel) (pa_cons (pv 7) pa_nil)) (pa_cons (pe_ix (kIxT K rfl) (pv 1) pe_int (fun _ _ => rfl)) (pa_cons (pv 2) pa_nil))))))))))), ?_⟩
    have hsz : sizeLine = 16777216 := sizeLine_eq
    have few := ok.few
    have hl : vs.length = es.length := Paired.length hv2
    refine ⟨_, rfl, cd, _, rfl, C.gP, pt, _, rfl, .inl (.inl C.hp), rfl, _, _, rfl, _, _, rfl, _, _, rfl, _, _, rfl, rfl, Nat.zero_le _, fun f nf => ?_⟩
    have s0 : Same H (upd H f (.lst [])) := same_upd nf
    have hf0 : (upd H f (.lst [])) f = some (.lst []) := upd_same
    generalize (upd H f (.lst [])) = H0 at s0 hf0 ⊢
    refine ⟨_, rfl, cd, _, rfl, (C.same s0).gE, en, vs, rfl, .inl (.inl (s0 _ _ hv1)), for_it (walk_enum (xs := vs)) (fun i σ H2 => Same H H2 ∧ ∃ x8 x9 x10 x11 x12 x13 x14 x15 x16, σ = [some (.ref cd), some (.ref b), some (.str (tx [c])), some (.int p.x), some (.int p.y), some (.int p.wr), some (optI p.sw), some (.ref f), x8, x9, x10, x11, x12, x13, x14, x15, x16] ∧ ∃ ys, H2 f = some (.lst ys) ∧ Paired (TupI H2) ys ((stepM p es st c).row.take i)) ⟨s0, _, _, _, _, _, _, _, _, _, rfl, [], hf0, .nil⟩ (fun i σ H2 _ ⟨s2, _⟩ => .inl (.inl (s2 _ _ hv1))) ?_ ?_⟩
    · rintro i x σ H2 H3 hi ⟨s2, x8, x9, x10, x11, x12, x13, x14, x15, x16, rfl, ys, hf, hys⟩ ⟨T', y1, y2, rfl, nT, rfl, e1, e2⟩
      cases (Option.some.inj e1)
      obtain ⟨enn, he, ea, rfl, hea⟩ := Paired.getL hv2 e2
      have hes : i < es.length := by omega
      have s3 := Same.trans s2 (same_upd (o := .tup [.int (i : Nat), .ref ea]) nT)
      have hf3 : (upd H2 T' (.tup [.int (i : Nat), .ref ea])) f = _ := (upd_ne (ne_of_none hf nT)).trans hf
      have i23 : Imm H2 (upd H2 T' (.tup [.int (i : Nat), .ref ea])) := Imm.new nT
      have hT3 : (upd H2 T' (.tup [.int (i : Nat), .ref ea])) T' = some (.tup [.int (i : Nat), .ref ea]) := upd_same
      generalize (upd H2 T' (.tup [.int (i : Nat), .ref ea])) = H3 at s3 hf3 i23 hT3 ⊢
      refine ⟨T', _, rfl, .inl (.inl hT3), rfl, _, _, rfl, _, _, rfl, ea, _, rfl, .inl (.inl (s3 _ _ hea)), rfl, _, _, rfl, _, _, rfl, rfl, rfl, ?_⟩
      have hei : es.getD i ([], 0) = enn := by rw [List.getD_eq_getElem?_getD, he]; rfl
      obtain ⟨ns, hns, hnl⟩ := sok.row.each i enn he
      obtain ⟨ar, ws, rfl, har, hrp⟩ := id hr1
      obtain ⟨wv, hwv, aw, rfl, haw⟩ := Paired.get hrp hns
      have eok := ok.all enn (List.mem_of_getElem? he)
      have e1l := eok.lo
      have e5l := eok.hi
      have hz0 : ns.getD 0 0 = 0 := by
        have := hz i hes
        rw [List.getD_eq_getElem?_getD (l := st.row), hns] at this
        exact this
      refine ⟨_, rfl, b, _, _, _, rfl, rfl, .inl (.inl (s3 _ _ hb)), rfl, _, rfl, ar, _, _, .ref aw, rfl, rfl, .inl (.inl (s3 _ _ har)), atI_nat hwv, by show 1 ≤ sizeLine; omega, fun ln nln => ⟨_, _, rfl, ?_⟩⟩
      let eld : Option (List Int × Nat) := st.mem.map fun m => (m.1.getD i [], m.2)
      have heldd : eld = st.mem.map fun m => (m.1.getD i [], m.2) := rfl
      have htl := tx_len enn.1
      have haw3 := s3 _ _ haw
      have hb3 := s3 _ _ hb
      have hm3 := hm.im (Imm.of_same s3)
      have nfl : f ≠ ln := ne_of_none hf3 nln
      have hn : ((((tx enn.1).length : Nat) : Int) + 1 - 1).toNat = enn.1.length := by rw [tx_len]; omega
      have s4 := s3.trans (same_upd (o := .lst [.int 0]) nln)
      have hf4 : (upd H3 ln (.lst [.int 0])) f = some (.lst ys) := (upd_ne nfl).trans hf3
      have hl4 : (upd H3 ln (.lst [.int 0])) ln = some (.lst (((List.range (0 + 1)).map (cell p enn.1 ns eld c)).map V.int)) := by
        rw [upd_same]
        show some (HO.lst [V.int 0]) = some (HO.lst [V.int (ns.getD 0 0)])
        rw [hz0]
      have s34 : Same H3 (upd H3 ln (.lst [.int 0])) := same_upd nln
      have haw4 := s34 _ _ haw3
      have hb4 := s34 _ _ hb3
      have hm4 := hm3.im (Imm.of_same s34)
      have nlnH : ∀ {b' : Addr} {o : HO}, H b' = some o → b' ≠ ln := fun e => ne_of_none (s3 _ _ e) nln
      refine ⟨_, rfl, _, rfl, by omega, _, _, rfl, rfl, 1, _, rfl, ⟨by omega, by omega, by omega, by rw [tx_len]; omega⟩, ?_⟩
      generalize (upd H3 ln (.lst [.int 0])) = H4 at s4 hf4 hl4 s34 haw4 hb4 hm4 ⊢
      refine for_range (lo := 1) (n := ((((tx enn.1).length : Nat) : Int) + 1 - 1).toNat) (fun j σ H5 => ∃ u v, σ = [some (.ref cd), some (.ref b), some (.str (tx [c])), some (.int p.x), some (.int p.y), some (.int p.wr), some (optI p.sw), some (.ref f), some (.int (i : Nat)), some (.str (tx enn.1)), some (.int enn.2), some (.ref aw), some (.ref ln), u, v, x15, x16] ∧ (∀ b o, b ≠ ln → H4 b = some o → H5 b = some o) ∧ H5 ln = some (.lst (((List.range (j + 1)).map (cell p enn.1 ns eld c)).map V.int))) ⟨_, _, rfl, fun _ _ _ e => e, hl4⟩ ?_ ?_
      · rintro j σ H5 hj ⟨u', v', rfl, s5, hl5⟩
        rw [hn] at hj
        have haw5 := s5 _ _ (nlnH haw) haw4
        have hb5 := s5 _ _ (nlnH hb) hb4
        have nlf : ln ≠ f := nfl.symm
        refine ⟨_, rfl, _, rfl, aw, _, _, _, rfl, rfl, .inl (.inl haw5), getI' (j := j + 1) (by omega) (by omega), _, rfl, _, _, rfl, rfl, ?_⟩
        refine ⟨_, rfl, _, rfl, _, _, rfl, rfl, ln, _, _, _, rfl, rfl, .inl (.inl hl5), getI' (j := j) (by omega) (by rw [List.length_map, List.length_range]; omega), _, rfl, _, _, rfl, rfl, by show 2 ≤ sizeLine; omega, fun l nl => ?_⟩
        have hci : ((List.range (j + 1)).map (cell p enn.1 ns eld c)).getD j 0 = cell p enn.1 ns eld c j := by
          rw [List.getD_eq_getElem?_getD, List.getElem?_map, List.getElem?_range (by omega)]
          rfl
        rw [hci]
        have nll : ln ≠ l := ne_of_none hl5 nl
        have hl6 : (upd H5 l (.lst [.int (ns.getD (j + 1) 0 + p.x), .int (cell p enn.1 ns eld c j + p.y)])) l = some (.lst [.int (ns.getD (j + 1) 0 + p.x), .int (cell p enn.1 ns eld c j + p.y)]) := upd_same
        have hln6 : (upd H5 l (.lst [.int (ns.getD (j + 1) 0 + p.x), .int (cell p enn.1 ns eld c j + p.y)])) ln = _ := (upd_ne nll).trans hl5
        have s6 : ∀ b o, b ≠ ln → H4 b = some o → (upd H5 l (.lst [.int (ns.getD (j + 1) 0 + p.x), .int (cell p enn.1 ns eld c j + p.y)])) b = some o := fun b o nb e => (upd_ne (ne_of_none (s5 _ _ nb e) nl)).trans (s5 _ _ nb e)
        have nl4 : ∀ b o, b ≠ ln → H4 b = some o → b ≠ l := fun b o nb e => ne_of_none (s5 _ _ nb e) nl
        generalize (upd H5 l (.lst [.int (ns.getD (j + 1) 0 + p.x), .int (cell p enn.1 ns eld c j + p.y)])) = H6 at hl6 hln6 s6 ⊢
        have haw6 := s6 _ _ (nlnH haw) haw4
        have wi : ∀ (k : Nat) (z : Int), z = (k : Int) → k < enn.1.length → atI enn.1 z = some (enn.1.getD k 0) := fun k z e h => by
          rw [e]
          refine atI_nat ?_
          rw [List.getElem?_eq_getElem h, List.getD_eq_getElem?_getD, List.getElem?_eq_getElem h]
          rfl
        refine ⟨_, rfl, .inl ⟨rfl, _, .inl (.inl hl6)⟩, _, rfl, _, rfl, _, _, rfl, rfl, aw, _, _, _, rfl, rfl, .inl (.inl haw6), getI' (j := j) (by omega) (by omega), ?_⟩
        refine ⟨fun v H' => v = .int (if enn.1.getD j 0 = c then 0 else p.wr) ∧ H6 = H', ?_, ?_⟩
        · refine ⟨_, rfl, _, rfl, _, _, rfl, rfl, tx enn.1, _, _, rfl, rfl, by omega, wi j _ (by omega) (by omega), _, rfl, rfl, _, rfl, ite2 (fun e => ?_) (fun e => ?_)⟩
          · have e2 : enn.1.getD j 0 = c := by
              have e3 : tx [enn.1.getD j 0] = tx [c] := V.str.inj (of_decide_eq_true e)
              exact List.head_eq_of_cons_eq (tx_inj e3)
            exact ⟨by rw [if_pos e2], rfl⟩
          · have e2 : ¬ enn.1.getD j 0 = c := fun z => e (decide_eq_true (by rw [z]))
            exact ⟨_, rfl, by rw [if_neg e2], rfl⟩
        rintro _ _ ⟨rfl, rfl⟩
        refine ⟨_, _, rfl, rfl, l, _, _, rfl, rfl, hl6, by show 2 < sizeLine; omega, ?_⟩
        have s7 : ∀ b o, b ≠ ln → H4 b = some o → (upd H6 l (.lst ([.int (ns.getD (j + 1) 0 + p.x), .int (cell p enn.1 ns eld c j + p.y)] ++ [.int (ns.getD j 0 + (if enn.1.getD j 0 = c then 0 else p.wr))]))) b = some o := fun b o nb e => (upd_ne (nl4 _ _ nb e)).trans (s6 _ _ nb e)
        have hln7 : (upd H6 l (.lst ([.int (ns.getD (j + 1) 0 + p.x), .int (cell p enn.1 ns eld c j + p.y)] ++ [.int (ns.getD j 0 + (if enn.1.getD j 0 = c then 0 else p.wr))]))) ln = _ := (upd_ne nll).trans hln6
        have hl7 : (upd H6 l (.lst ([.int (ns.getD (j + 1) 0 + p.x), .int (cell p enn.1 ns eld c j + p.y)] ++ [.int (ns.getD j 0 + (if enn.1.getD j 0 = c then 0 else p.wr))]))) l = some (.lst ([ns.getD (j + 1) 0 + p.x, cell p enn.1 ns eld c j + p.y, ns.getD j 0 + (if enn.1.getD j 0 = c then 0 else p.wr)].map V.int)) := upd_same
        generalize (upd H6 l (.lst ([.int (ns.getD (j + 1) 0 + p.x), .int (cell p enn.1 ns eld c j + p.y)] ++ [.int (ns.getD j 0 + (if enn.1.getD j 0 = c then 0 else p.wr))]))) = H7 at s7 hln7 hl7 ⊢
        refine ⟨fun σ' H' => σ' = [some (.ref cd), some (.ref b), some (.str (tx [c])), some (.int p.x), some (.int p.y), some (.int p.wr), some (optI p.sw), some (.ref f), some (.int (i : Nat)), some (.str (tx enn.1)), some (.int enn.2), some (.ref aw), some (.ref ln), some (.int (1 + (j : Int))), some (.ref l), x15, x16] ∧ (∀ b o, b ≠ ln → H4 b = some o → H' b = some o) ∧ H' ln = some (.lst (((List.range (j + 1)).map (cell p enn.1 ns eld c)).map V.int)) ∧
          H' l = some (.lst (([ns.getD (j + 1) 0 + p.x, cell p enn.1 ns eld c j + p.y, ns.getD j 0 + (if enn.1.getD j 0 = c then 0 else p.wr)] ++ swaps p enn.1 eld c j).map V.int)), ?_, ?_⟩
        · have hb7 := s7 _ _ (nlnH hb) hb4
          have noswap : ∀ {H8 : Hp}, Same H7 H8 → swaps p enn.1 eld c j = [] → (fun σ' H' => σ' = [some (.ref cd), some (.ref b), some (.str (tx [c])), some (.int p.x), some (.int p.y), some (.int p.wr), some (optI p.sw), some (.ref f), some (.int (i : Nat)), some (.str (tx enn.1)), some (.int enn.2), some (.ref aw), some (.ref ln), some (.int (1 + (j : Int))), some (.ref l), x15, x16] ∧ (∀ b o, b ≠ ln → H4 b = some o → H' b = some o) ∧ H' ln = some (.lst (((List.range (j + 1)).map (cell p enn.1 ns eld c)).map V.int)) ∧
            H' l = some (.lst (([ns.getD (j + 1) 0 + p.x, cell p enn.1 ns eld c j + p.y, ns.getD j 0 + (if enn.1.getD j 0 = c then 0 else p.wr)] ++ swaps p enn.1 eld c j).map V.int)) : L2.St → Hp → Prop) [some (.ref cd), some (.ref b), some (.str (tx [c])), some (.int p.x), some (.int p.y), some (.int p.wr), some (optI p.sw), some (.ref f), some (.int (i : Nat)), some (.str (tx enn.1)), some (.int enn.2), some (.ref aw), some (.ref ln), some (.int (1 + (j : Int))), some (.ref l), x15, x16] H8 :=
            fun sm e => ⟨rfl, fun b o nb eb => sm _ _ (s7 b o nb eb), sm _ _ hln7, by rw [e, List.append_nil]; exact sm _ _ hl7⟩
          by_cases hsw : p.sw = none
          · refine ⟨_, rfl, rfl, false, by rw [hsw]; rfl, iteF (iteF ?_)⟩
            exact noswap Same.rfl' (swaps_no hsw)
          obtain ⟨sv, hsv⟩ := Option.ne_none_iff_exists'.mp hsw
          refine ⟨_, rfl, rfl, true, by rw [hsv]; rfl, iteT ?_⟩
          refine ⟨_, rfl, _, _, rfl, rfl, _, rfl, ite2 (fun e0 => ?_) (fun e0 => iteF (noswap Same.rfl' ?_))⟩
          · have j1 : 1 ≤ j := by have := of_decide_eq_true e0; omega
            refine ⟨_, rfl, b, _, _, _, rfl, rfl, .inl (.inl hb7), rfl, Nat.zero_le _, fun t nt => ?_⟩
            have s78 := same_upd (o := .tup []) nt
            have ht8 : (upd H7 t (.tup [])) t = some (.tup []) := upd_same
            generalize (upd H7 t (.tup [])) = H8 at s78 ht8 ⊢
            have hb8 := s78 _ _ hb7
            have im8 : Imm H4 H8 := fun b o e im => by
              by_cases z : b = ln
              · rw [z, hl4] at e
                cases e
                cases im
              · exact s78 _ _ (s7 b o z e)
            have hm8 := hm4.im im8
            cases hmem : st.mem with
            | none =>
              rw [hmem] at hm8
              obtain ⟨⟨mb, rfl, hmb⟩, rfl⟩ := hm8
              refine ⟨.tuple [], .tuple [], dp_nil hmb, dp_nil ht8, shaped_nil, shaped_nil, false, by rw [eqv_nil]; rfl, iteF (iteF ?_)⟩
              refine noswap s78 ?_
              have e9 : eld = none := by show st.mem.map _ = none; rw [hmem]; rfl
              rw [e9]
              rfl
            | some qq =>
              obtain ⟨hh, d⟩ := qq
              rw [hmem] at hm8
              obtain ⟨hR, rfl⟩ := hm8
              obtain ⟨rok, hd, hswS⟩ := sok.mem hh d hmem
              obtain ⟨ns2, hns2, hnl2⟩ := rok.each i enn he
              have hne : hh.isEmpty = false := by
                cases hh with
                | nil => simp at hns2
                | cons x r => rfl
              have e9 : eld = some (ns2, d) := by
                show st.mem.map _ = _
                rw [hmem]
                show some (hh.getD i [], d) = _
                rw [List.getD_eq_getElem?_getD, hns2]
                rfl
              refine ⟨dRows hh, .tuple [], hR.dp, dp_nil ht8, shaped_rows _, shaped_nil, true, by rw [eqv_rows_nil, hne]; rfl, iteT ?_⟩
              refine ⟨_, rfl, _, rfl, b, _, _, _, rfl, rfl, .inl (.inl hb8), rfl, rfl, _, rfl, ?_⟩
              by_cases dc : d = c
              · subst dc
                refine iteND rfl ?_
                refine noswap s78 ?_
                rw [e9, swaps_if hsv, if_neg fun z => z.2.1 rfl]
              · refine iteNDn (fun z => dc (List.head_eq_of_cons_eq (tx_inj (V.str.inj z))).symm) ?_
                refine ⟨_, rfl, _, rfl, _, _, rfl, rfl, _, rfl, _, rfl, _, rfl, tx enn.1, rfl, by omega, _, rfl, _, rfl, b, _, _, _, rfl, rfl, .inl (.inl hb8), rfl, _, _, rfl, rfl, by rw [tx_len, tx_len]; show 2 ≤ _; omega, rfl, _, rfl, ?_⟩
                rw [slice_two j1 hj, tx_app]
                refine ite2 (fun e2 => ?_) (fun e2 => ?_)
                · have e4 := tx_inj (V.str.inj (of_decide_eq_true e2))
                  injection e4 with e5 e6
                  injection e6 with e7
                  have hswv : swaps p enn.1 eld c j = [ns2.getD (j - 1) 0 + sv] := by
                    rw [e9, swaps_if hsv, if_pos ⟨j1, dc, e5, e7⟩]
                  obtain ⟨am, ws2, rfl, hma, hmp⟩ := hR
                  obtain ⟨wv2, hwv2, aw2, rfl, haw2⟩ := Paired.get hmp hns2
                  have hl8 := s78 _ _ hl7
                  refine ⟨_, rfl, .inl ⟨rfl, _, .inl (.inl hl8)⟩, _, rfl, b, _, _, _, rfl, rfl, .inl (.inl hb8), rfl, _, rfl, am, _, _, .ref aw2, rfl, rfl, .inl (.inl hma), atI_nat hwv2, _, rfl, _, _, rfl, rfl, aw2, _, _, _, rfl, rfl, .inl (.inl haw2), getI' (j := j - 1) (by omega) (by omega), _, rfl, _, sv, rfl, by rw [hsv]; rfl, l, _, _, rfl, rfl, hl8, by show 3 < sizeLine; omega, ?_⟩
                  refine ⟨rfl, fun b' o nb eb => (upd_ne (nl4 _ _ nb eb)).trans (s78 _ _ (s7 _ _ nb eb)), (upd_ne nll).trans (s78 _ _ hln7), ?_⟩
                  rw [upd_same, hswv]
                  rfl
                · refine noswap s78 ?_
                  rw [e9, swaps_if hsv, if_neg fun z => e2 (decide_eq_true (by rw [z.2.2.1, z.2.2.2]; rfl))]
          · have j0 : j = 0 := by
              have h1 : ¬ ((1 : Int) + (j : Int) > 1) := fun z => e0 (decide_eq_true z)
              omega
            subst j0
            unfold swaps
            split
            · rw [if_neg (fun z => by omega)]
            · rfl
        rintro _ H8 ⟨rfl, s8, hln8, hl8⟩
        refine ⟨_, rfl, .inl ⟨rfl, _, .inl (.inl hln8)⟩, _, rfl, l, _, rfl, .inl (.inl hl8), by simp, fun mm hmm hle => ?_⟩
        have em : mm = cell p enn.1 ns eld c (j + 1) := minL_eq hmm hle
        refine ⟨ln, _, _, rfl, rfl, hln8, by simp; omega, ?_⟩
        refine ⟨_, _, rfl, fun b o nb e => (upd_ne nb).trans (s8 _ _ nb e), ?_⟩
        rw [upd_same, em, List.range_succ (n := j + 1), List.map_append, List.map_append]
        rfl
      · rintro σ H5 ⟨u', v', rfl, s5, hl5⟩
        rw [hn] at hl5
        have hf5 := s5 _ _ nfl hf4
        refine ⟨_, rfl, .inl ⟨rfl, _, .inl (.inl hf5)⟩, _, rfl, ln, _, rfl, .inl ⟨.inl (.inl hl5), fun tl ntl => ?_⟩⟩
        have hf6 := (same_upd (o := .tup (((List.range (enn.1.length + 1)).map (cell p enn.1 ns eld c)).map V.int)) ntl) _ _ hf5
        have e1 := Paired.length hys
        rw [List.length_take] at e1
        refine ⟨f, _, _, rfl, rfl, hf6, by omega, ?_⟩
        have sH : ∀ b o, H b = some o → H5 b = some o := fun b o e => s5 _ _ (nlnH e) (s4 _ _ e)
        have i25 : Imm H2 H5 := fun b o e im => by
          have h3 := i23 b o e im
          exact s5 _ _ (ne_of_none h3 nln) (s34 _ _ h3)
        have gi : (stepM p es st c).row[i]? = some (nextW p enn.1 ns eld c) := by
          unfold stepM
          rw [List.getElem?_map, List.getElem?_range hes]
          show some (nextW p (es.getD i ([], 0)).1 (st.row.getD i []) (st.mem.map fun m => (m.1.getD i [], m.2)) c) = _
          rw [hei, show st.row.getD i [] = ns by rw [List.getD_eq_getElem?_getD, hns]; rfl]
        have i6 : Imm H5 (upd (upd H5 tl (.tup (((List.range (enn.1.length + 1)).map (cell p enn.1 ns eld c)).map V.int))) f (.lst (ys ++ [.ref tl]))) := (Imm.new ntl).trans (Imm.wr hf6 (fun z => z))
        refine ⟨fun b o e => ?_, _, _, _, _, _, _, _, _, _, rfl, ys ++ [.ref tl], upd_same, ?_⟩
        · rw [upd_ne (ne_of_none e nf), upd_ne (ne_of_none (sH _ _ e) ntl)]
          exact sH _ _ e
        · rw [List.take_add_one, gi]
          exact Paired.snoc ⟨tl, rfl, (Imm.wr hf6 (fun z => z)).tup upd_same⟩ (Paired.mapP hys fun _ _ q => q.im (i25.trans i6))
    · rintro σ H2 ⟨s2, x8, x9, x10, x11, x12, x13, x14, x15, x16, rfl, ys, hf, hys⟩
      rw [List.take_of_length_le (by unfold stepM; rw [List.length_map, List.length_range]; omega)] at hys
      have C2 := C.same s2
      have hv3 := s2 _ _ hv1
      have hv4 := hv2.im (Imm.of_same s2)
      refine ⟨⟨_, rfl⟩, _, rfl, cd, _, rfl, C2.gE, en, rfl, ⟨_, .inl (.inl hv3)⟩, fun D hD => lc_map (walk_list (xs := vs)) noA (fun i ys H => ys = txs ((wds es).take i)) hD id (by omega) (fun i ys H _ k _ => .inl (.inl (k.toSame _ _ hv3))) rfl ?_ ?_⟩
      · rintro i x H3 H4 ys hi k rfl ⟨e12, hy⟩ eD push
        have e21 := e12.symm
        subst e21
        obtain ⟨e, he, ea, rfl, hea⟩ := Paired.getL hv4 hy
        refine ⟨rfl, _, rfl, ea, _, _, _, rfl, rfl, .inl (.inl (k.im.tup hea)), rfl, push _ _ Kp.refl ?_⟩
        have g1 : (wds es)[i]? = some e.1 := by rw [List.getElem?_map, he]; rfl
        rw [List.take_add_one, g1]
        unfold txs
        rw [List.map_append]
        rfl
      intro H3 zs k3 eD tz
      subst tz
      rw [List.take_of_length_le (by rw [List.length_map]; omega)] at eD
      have hfl : (wds es).flatten = es.flatMap (·.1) := by rw [List.flatMap_def]
      have hl5 := ents_len (es := es) fun e he => (ok.all e he).hi
      refine ⟨_, D, (wds es).map tx, rfl, rfl, .inl (.inl (.inl (by rw [List.map_map]; exact eD))), by rw [sum_lens, hfl]; show _ + _ * 0 ≤ _; omega, ?_⟩
      rw [join_tx, hfl]
      have s23 := k3.toSame
      have s03 := s2.trans s23
      have hf3 := s23 _ _ hf
      have noMem : (stepM p es st c).mem = none → ∀ tf, H3 tf = none → ∀ te, (upd H3 tf (.tup ys)) te = none → ∀ r, (upd (upd H3 tf (.tup ys)) te (.tup [])) r = none → Q (.ref r) (upd (upd (upd H3 tf (.tup ys)) te (.tup [])) r (.tup [.ref tf, .ref te, .str (tx [])])) := fun hmn tf ntf te nte r' nr' => by
        have i1 : Imm H2 (upd (upd (upd H3 tf (.tup ys)) te (.tup [])) r' (.tup [.ref tf, .ref te, .str (tx [])])) := (Imm.of_same s23).trans ((Imm.new ntf).trans ((Imm.new nte).trans (Imm.new nr')))
        have e1 : (upd (upd (upd H3 tf (.tup ys)) te (.tup [])) r' (.tup [.ref tf, .ref te, .str (tx [])])) tf = some (.tup ys) := (Imm.new nr').tup ((Imm.new nte).tup upd_same)
        have e2 : (upd (upd (upd H3 tf (.tup ys)) te (.tup [])) r' (.tup [.ref tf, .ref te, .str (tx [])])) te = some (.tup []) := (Imm.new nr').tup upd_same
        refine q _ _ (Same.trans s03 (Same.trans (same_upd ntf) (Same.trans (same_upd nte) (same_upd nr')))) ⟨r', _, _, _, rfl, upd_same, ⟨tf, ys, rfl, e1, Paired.mapP hys fun _ _ z => z.im i1⟩, ?_⟩
        rw [hmn]
        exact ⟨⟨te, rfl, e2⟩, rfl⟩
      cases hsw : p.sw with
      | none =>
        refine ⟨_, rfl, rfl, true, rfl, iteT (iteT ?_)⟩
        refine ⟨_, rfl, f, _, rfl, .inl ⟨.inl (.inl hf3), fun tf ntf => ⟨Nat.zero_le _, fun te nte => ⟨by show 3 ≤ sizeLine; omega, fun r' nr' => ?_⟩⟩⟩⟩
        exact noMem (if_neg (fun z => by rw [hsw] at z; cases z.1)) tf ntf te nte r' nr'
      | some sv =>
        refine ⟨_, rfl, rfl, false, rfl, iteF ?_⟩
        refine ⟨_, rfl, _, rfl, c, _, rfl, rfl, _, rfl, ?_⟩
        by_cases hc : c ∈ abc es
        · refine iteND (by simpa using (abc_iff ok).mp hc) ?_
          refine ⟨_, rfl, f, _, rfl, .inl ⟨.inl (.inl hf3), fun tf ntf => ?_⟩⟩
          have hb4 := (s03.trans (same_upd (o := .tup ys) ntf)) _ _ hb
          refine ⟨_, rfl, b, _, _, _, rfl, rfl, .inl (.inl hb4), rfl, _, rfl, by show 3 ≤ sizeLine; omega, fun r' nr' => ?_⟩
          have i1 : Imm H2 (upd (upd H3 tf (.tup ys)) r' (.tup [.ref tf, r, .str (tx [c])])) := (Imm.of_same s23).trans ((Imm.new ntf).trans (Imm.new nr'))
          refine q _ _ (Same.trans s03 (Same.trans (same_upd ntf) (same_upd nr'))) ⟨r', _, _, _, rfl, upd_same, ⟨tf, ys, rfl, (Imm.new nr').tup upd_same, Paired.mapP hys fun _ _ z => z.im i1⟩, ?_⟩
          have hmn : (stepM p es st c).mem = some (st.row, c) := if_pos ⟨by rw [hsw]; rfl, hc⟩
          rw [hmn]
          exact ⟨hr1.im ((Imm.of_same s2).trans i1), rfl⟩
        · refine iteNDn (by simpa using fun z => hc ((abc_iff ok).mpr z)) ?_
          refine ⟨_, rfl, f, _, rfl, .inl ⟨.inl (.inl hf3), fun tf ntf => ⟨Nat.zero_le _, fun te nte => ⟨by show 3 ≤ sizeLine; omega, fun r' nr' => ?_⟩⟩⟩⟩
          exact noMem (if_neg (fun z => hc z.2)) tf ntf te nte r' nr'
end
end Mw


set_option Elab.async false
set_option linter.all false
set_option maxRecDepth 100000
set_option maxHeartbeats 4000000
namespace Mw
/-! ### the search without a bound known ahead -/
theorem bfs_all {p : Pr} {es : List Ent} {I : Sta → Prop} (h0 : I (startM p es)) (hs : ∀ s c, I s → I (stepM p es s c)) : ∀ k, ∀ s ∈ bfsN p es k, I s
  | 0, s, h => by rw [List.mem_singleton.mp h]; exact h0
  | k + 1, s, h => by
    have ih := bfs_all h0 hs k
    unfold bfsN at h
    cases hk : (bfsN p es k)[k]? with
    | none => rw [hk] at h; exact ih s h
    | some t =>
      rw [hk] at h
      have ht := ih t (List.mem_of_getElem? hk)
      have : ∀ (cs : List Nat) (fs : List Sta), (∀ x ∈ fs, I x) → ∀ x ∈ visit p es fs t cs, I x := by
        intro cs
        induction cs with
        | nil => exact fun fs hf => hf
        | cons c cs ih2 =>
          intro fs hf
          refine ih2 _ fun x hx => ?_
          unfold visit1 at hx
          split at hx
          · exact hf x hx
          · rcases List.mem_append.mp hx with z | z
            · exact hf x z
            · rw [List.mem_singleton.mp z]
              exact hs t c ht
      exact this _ _ ih s h
theorem visit1_len {p : Pr} {es : List Ent} {s : Sta} {fs : List Sta} {c : Nat} : (visit1 p es s fs c).length ≤ fs.length + 1 := by
  unfold visit1
  split
  · omega
  · rw [List.length_append]; exact Nat.le_refl _
theorem visit_len {p : Pr} {es : List Ent} {s : Sta} : ∀ {cs : List Nat} {fs : List Sta}, (visit p es fs s cs).length ≤ fs.length + cs.length
  | [], fs => Nat.le_refl _
  | c :: cs, fs => by
    have h1 := visit_len (p := p) (es := es) (s := s) (cs := cs) (fs := visit1 p es s fs c)
    have h2 := visit1_len (p := p) (es := es) (s := s) (fs := fs) (c := c)
    show (visit p es (visit1 p es s fs c) s cs).length ≤ _
    rw [List.length_cons]
    omega
theorem bfs_closed {p : Pr} {es : List Ent} {k : Nat} (h : (bfsN p es k).length ≤ k) : Closed p es (bfsN p es k) where
  start := start_bfs k
  step := fun s hs c hc => by
    obtain ⟨i, hi⟩ := List.mem_iff_getElem?.mp hs
    have := (List.getElem?_eq_some_iff.mp hi).1
    exact bfs_done k i s (by omega) hi c hc
theorem bfs_nil (p : Pr) : ∀ k, bfsN p [] k = [startM p []]
  | 0 => rfl
  | k + 1 => by
    have ih := bfs_nil p k
    unfold bfsN
    rw [ih]
    cases k with
    | succ k => rfl
    | zero =>
      show visit p [] [startM p []] (startM p []) (tried []) = _
      have hv : ∀ cs : List Nat, visit p [] [startM p []] (startM p []) cs = [startM p []] := by
        intro cs
        induction cs with
        | nil => rfl
        | cons c cs ih2 =>
          show visit p [] (visit1 p [] (startM p []) [startM p []] c) (startM p []) cs = _
          have e : stepM p [] (startM p []) c = startM p [] := by
            unfold stepM startM
            rw [if_neg fun z => by simp [abc, letters] at z]
            rfl
          have e1 : visit1 p [] (startM p []) [startM p []] c = [startM p []] := by
            unfold visit1
            rw [e]
            exact if_pos (List.mem_singleton.mpr rfl)
          rw [e1]
          exact ih2
      exact hv _
end Mw


set_option Elab.async false
set_option linter.all false
set_option maxRecDepth 100000
set_option maxHeartbeats 4000000
set_option pp.maxSteps 600
set_option pp.deepTerms false
namespace Mw
open PySem PySem.Spec PyProof.Rows L2
open C8 (Cal pe_c Mak pe_mk)
def cArg : Expr → Expr
  | .Call _ (a :: _) _ _ => a
  | e => e
section
variable {P : Program} {w : World} {K : PySem.W.Frag} {mg : Str → Option Value} {base : Heap}
/-! ### l.stands -/
abbrev NLStands : List Str := ["_law_case_here", "_law_cap", "_law_lack", "_law_start", "_law_entry", "_law_j", "_law_found", "_law_known", "_law_at", "_law_letter", "_law_later"]
theorem scLStands : FnScope NLStands ["_law_case_here", "_law_cap"] (defScope sLStands) := ⟨rfl, rfl, rfl, by decide +kernel, rfl, by decide +kernel, by decide +kernel⟩
def spLStands (P : Program) (w : World) (K : PySem.W.Frag) : Sp := fun vs H Q _ => ∃ (cd lt pt en : Addr) (cs : List Nat) (p : Pr) (es : List Ent), vs = [.ref cd, .int 100] ∧ CaseAt H cd lt pt en cs p es ∧
  (es ≠ [] → ∀ H', Same H H' → Q .non H') ∧ ∀ H' f M, Same H H' → Closed p es M → M.length ≤ 100 → Q (.ref f) H'
theorem oLStands (T : Txt K mg) : Cal P w K mg base 2 "_law_stands" (spLStands P w K) [] := by
  refine calD (dLStands_fn T) (gLStands T) scLStands (fun vs H Q E h => ?_) (fun _ _ _ _ _ _ us hl => match us, hl with | [_, _], _ => rfl) (fun cdv A outer s H vs Q E hr h => ?_)
  · obtain ⟨cd, lt, pt, en, cs, p, es, rfl, _⟩ := h
    rfl
  · obtain ⟨cd, lt, pt, en, cs, p, es, rfl, C, q1, q2⟩ := h
    obtain ⟨vs, hv1, hv2⟩ := C.he
    have ok := C.eok
    have pok := C.pok
    have hu := hu_of hr
    refine ⟨_, PSs.nox (pss_cons (ps_set (i := 2) scLStands.nd rfl (.inr rfl) (pe_ix (kIxT K rfl) (pe_dget hu (pv 0) pe_str (fun _ _ => rfl)) pe_int (fun _ _ => rfl)))
       (pss_cons (ps_set (i := 3) scLStands.nd rfl (.inl rfl) (pe_callTy (kTup K rfl) (by rfl) (f_tuple T) (by decide +kernel) (pa_cons (pe_lc (own := [("_law_entry", 4)]) (g := gName 4) rfl scLStands.nd (kPiL K rfl (pe_dget hu (pv 0) pe_str (fun _ _ => rfl))) (blkOk_by (own := [("_law_entry", 4)]) (N := NLStands) (sc := defScope sLStands) (by decide +kernel)) (fun _ _ _ _ _ => (pg_name (i := 4) scLStands.nd rfl (.inl rfl))) (fun _ _ _ _ _ => pts_nil) (fun _ _ _ _ _ => (pe_callTy (kTup K rfl) (by rfl) (f_tuple T) (by decide +kernel) (pa_cons (pe_lc (own := [("_law_j", 5)]) (g := gName 5) rfl scLStands.nd (pi_range1 (by rfl) (f_range T) (pa_cons (pe_op op_add (pe_callB call_len_str (by rfl) (f_len T) (by decide +kernel) (pa_cons (pe_ix (kIxT K rfl) (pv 4) pe_int (fun _ _ => rfl)) pa_nil)) pe_int) pa_nil)) (blkOk_eq (own := [("_law_j", 5)]) (N := NLStands) (sc := reSc (defScope sLStands) (lcSc (cArg (stVal ((defBody sLStands).getD 1 (.Pass ⟨0, 0, 0, 0⟩)))))) (by rfl) (by decide +kernel)) (fun _ _ _ _ _ => (pg_name (i := 5) scLStands.nd rfl (.inl rfl))) (fun _ _ _ _ _ => pts_nil) (fun _ _ _ _ _ => (pe_op op_mul (pv 2) (pv 5)))) pa_nil)))) pa_nil)))
       (pss_cons (ps_par3 (i := 6) (j := 7) (l := 8) (by rfl) scLStands.nd rfl rfl rfl (by decide) (by decide) (by decide) rfl rfl rfl (pa_cons (pe_lst (pa_cons (pe_tup (pa_cons (pe_tup (pa_cons (pv 3) (pa_cons (pe_tup pa_nil) (pa_cons pe_str pa_nil)))) (pa_cons pe_str pa_nil))) pa_nil)) (pa_cons (pe_disp1N hr.units (pe_tup (pa_cons (pv 3) (pa_cons (pe_tup pa_nil) (pa_cons pe_str pa_nil)))) pe_bl) (pa_cons pe_int pa_nil))) (by rfl))
       (pss_cons (ps_while PassesOwn.never (pt_cmpR op_lt (pv 8) (pe_callB (kLen K rfl) (by rfl) (f_len T) (by decide +kernel) (pa_cons (pv 6) pa_nil)) (nomark _))
       (pss_cons (ps_for PassesOwn.never rfl (kPiL K rfl (pe_c (oLAlphabet T) hr (by decide) (by rfl) (pa_cons (pv 0) pa_nil))) (pg_name (i := 9) scLStands.nd rfl (.inl rfl))
       (pss_cons (ps_set (i := 10) scLStands.nd rfl (.inl rfl) (pe_c (oLStep T) hr (by decide) (by rfl) (pa_cons (pv 0) (pa_cons (pe_ix (kIxT K rfl) (pe_ix (kIxL K rfl) (pv 6) (pv 8) (fun _ _ => rfl)) pe_int (fun _ _ => rfl)) (pa_cons (pv 9) pa_nil)))))
       (pss_one (ps_if (pt_cmp (pc_ndnotin hr.units (pv 10) (pv 7)))
       (pss_cons (ps_ndput hr.units (pv 7) (pv 10) pe_bl rfl)
       (pss_one (ps_expr (pe_bm PySem.F.plainAttrs_list PySem.F.slot_list_append PySem.F.type_list_append mt_append (pv 6) (pa_cons (pe_tup (pa_cons (pv 10) (pa_cons (pe_op op_add_str (pe_ix (kIxT K rfl) (pe_ix (kIxL K rfl) (pv 6) (pv 8) (fun _ _ => rfl)) pe_int (fun _ _ => rfl)) (pv 9)) pa_nil))) pa_nil)))))
       pss_nil))))
       (pss_cons (ps_if (pt_cmpR op_gt (pe_callB (kLen K rfl) (by rfl) (f_len T) (by decide +kernel) (pa_cons (pv 6) pa_nil)) (pv 1) (nomark _))
       (pss_one (ps_ret pe_non))
       pss_nil)
       (pss_one (ps_set (i := 8) scLStands.nd rfl (.inl rfl) (pe_op op_add (pv 8) pe_int))))))
       (pss_one (ps_ret (pv 6))))))), ?_⟩
    have hsz : sizeLine = 16777216 := sizeLine_eq
    have few := ok.few
    have hlen : vs.length = es.length := Paired.length hv2
    have y9 := pok.y
    have estr : ("" : Str) = tx [] := rfl
    -- lack, start
    refine ⟨_, rfl, cd, _, rfl, C.gP, pt, _, _, _, rfl, rfl, .inl (.inl C.hp), rfl, ?_⟩
    refine ⟨_, rfl, cd, _, rfl, C.gE, en, rfl, ⟨_, .inl (.inl hv1)⟩, fun D hD => lc_map (walk_list (xs := vs)) noA (fun i ys H2 => Paired (TupI H2) ys ((startM p es).row.take i)) hD id (by omega) (fun i ys H2 _ k _ => .inl (.inl (k.toSame _ _ hv1))) .nil ?_ ?_⟩
    · rintro i x H1 H2 ys hi k t ⟨e12, hy⟩ eD push
      have e21 := e12.symm
      subst e21
      obtain ⟨e1, he, ea, rfl, hea⟩ := Paired.getL hv2 hy
      have eok := ok.all e1 (List.mem_of_getElem? he)
      have hi5 := eok.hi
      have htl := tx_len e1.1
      refine ⟨rfl, _, rfl, ea, _, _, _, rfl, rfl, .inl (.inl (k.im.tup hea)), rfl, _, rfl, by omega, _, _, rfl, rfl, _, rfl, by omega, by omega, fun D2 hD2 => ?_⟩
      have hn : ((((tx e1.1).length : Nat) : Int) + 1).toNat = e1.1.length + 1 := by omega
      refine lc_map walk_range noA (fun i ys H2 => ys = (((List.range i).map fun (j : Nat) => p.y * (j : Int))).map V.int) hD2 id (by omega) (fun _ _ _ _ _ _ => trivial) rfl ?_ ?_
      · rintro j x H3 H4 zs hj k3 rfl ⟨rfl, rfl⟩ eD2 push2
        refine ⟨rfl, _, rfl, _, rfl, _, _, rfl, rfl, .inl ⟨by omega, by omega⟩, push2 _ _ Kp.refl ?_⟩
        rw [List.range_succ, List.map_append, List.map_append]
        show _ ++ [V.int (p.y * (0 + (j : Int)))] = _ ++ [V.int (p.y * (j : Int))]
        rw [Int.zero_add]
      · intro H3 zs k3 eD2 t3
        subst t3
        rw [hn] at eD2
        refine ⟨D2, _, rfl, .inl ⟨.inl (.inl eD2), fun l nl => push _ _ (k3.trans (Kp.new nl)) ?_⟩⟩
        have gi : (startM p es).row[i]? = some ((List.range (e1.1.length + 1)).map fun (j : Nat) => p.y * (j : Int)) := by
          unfold startM
          rw [List.getElem?_map, he]
          rfl
        have eD4 := (k3.trans (Kp.new (o := .tup ((((List.range (e1.1.length + 1)).map fun (j : Nat) => p.y * (j : Int))).map V.int)) nl)).kp D _ eD id
        have im : Imm H1 (upd (upd H3 l (.tup ((((List.range (e1.1.length + 1)).map fun (j : Nat) => p.y * (j : Int))).map V.int))) D (.lst (ys ++ [.ref l]))) := (k3.im.trans (Imm.new nl)).trans (Imm.wr eD4 (fun z => z))
        rw [List.take_add_one, gi]
        exact Paired.snoc ⟨l, rfl, (Imm.wr eD4 (fun z => z)).tup upd_same⟩ (Paired.mapP t fun _ _ q => q.im im)
    intro H1 ys k1 eD t1
    have hrl : (startM p es).row.length = es.length := by unfold startM; rw [List.length_map]
    rw [List.take_of_length_le (by omega)] at t1
    refine ⟨D, _, rfl, .inl ⟨.inl (.inl eD), fun ts nts => ?_⟩⟩
    have s12 := same_upd (o := .tup ys) nts
    have hts2 : (upd H1 ts (.tup ys)) ts = some (.tup ys) := upd_same
    have hys2 := Paired.mapP t1 fun _ _ z => z.im (Imm.new (o := .tup ys) nts)
    have s02 : Same H (upd H1 ts (.tup ys)) := k1.toSame.trans s12
    generalize (upd H1 ts (.tup ys)) = H2 at hts2 hys2 s02 ⊢
    -- found
    refine ⟨_, rfl, Nat.zero_le _, fun te nte => ⟨by show 3 ≤ sizeLine; omega, fun t1 nt1 => ⟨by show 2 ≤ sizeLine; omega, fun t2 nt2 => ⟨by show 1 ≤ sizeLine; omega, fun f nf => ?_⟩⟩⟩⟩
    rw [estr] at nt2 nf ⊢
    have i2 : Imm H2 (upd (upd (upd (upd H2 te (.tup [])) t1 (.tup [.ref ts, .ref te, .str (tx [])])) t2 (.tup [.ref t1, .str (tx [])])) f (.lst [.ref t2])) := (Imm.new nte).trans ((Imm.new nt1).trans ((Imm.new nt2).trans (Imm.new nf)))
    have s23 : Same H2 (upd (upd (upd (upd H2 te (.tup [])) t1 (.tup [.ref ts, .ref te, .str (tx [])])) t2 (.tup [.ref t1, .str (tx [])])) f (.lst [.ref t2])) := (same_upd nte).trans ((same_upd nt1).trans ((same_upd nt2).trans (same_upd nf)))
    have hf3 : (upd (upd (upd (upd H2 te (.tup [])) t1 (.tup [.ref ts, .ref te, .str (tx [])])) t2 (.tup [.ref t1, .str (tx [])])) f (.lst [.ref t2])) f = some (.lst [.ref t2]) := upd_same
    have ht23 : (upd (upd (upd (upd H2 te (.tup [])) t1 (.tup [.ref ts, .ref te, .str (tx [])])) t2 (.tup [.ref t1, .str (tx [])])) f (.lst [.ref t2])) t2 = some (.tup [.ref t1, .str (tx [])]) := (Imm.new nf).tup upd_same
    have ht13 : (upd (upd (upd (upd H2 te (.tup [])) t1 (.tup [.ref ts, .ref te, .str (tx [])])) t2 (.tup [.ref t1, .str (tx [])])) f (.lst [.ref t2])) t1 = some (.tup [.ref ts, .ref te, .str (tx [])]) := (Imm.new nf).tup ((Imm.new nt2).tup upd_same)
    have hte3 : (upd (upd (upd (upd H2 te (.tup [])) t1 (.tup [.ref ts, .ref te, .str (tx [])])) t2 (.tup [.ref t1, .str (tx [])])) f (.lst [.ref t2])) te = some (.tup []) := (Imm.new nf).tup ((Imm.new nt2).tup ((Imm.new nt1).tup upd_same))
    have nfH : H f = none := by
      cases e : H f with
      | none => rfl
      | some o =>
        have h1 := s02 _ _ e
        have h2 := (same_upd (o := .tup [.ref t1, .str (tx [])]) nt2) _ _ ((same_upd (o := .tup [.ref ts, .ref te, .str (tx [])]) nt1) _ _ ((same_upd (o := .tup []) nte) _ _ h1))
        rw [nf] at h2
        cases h2
    generalize (upd (upd (upd (upd H2 te (.tup [])) t1 (.tup [.ref ts, .ref te, .str (tx [])])) t2 (.tup [.ref t1, .str (tx [])])) f (.lst [.ref t2])) = H3 at i2 s23 hf3 ht23 ht13 hte3 ⊢
    have s03 := s02.trans s23
    have hts3 := i2.tup hts2
    have hys3 := Paired.mapP hys2 fun _ _ z => z.im i2
    have hst3 : StT H3 (.ref t1) (startM p es) := ⟨t1, .ref ts, .ref te, .str (tx []), rfl, ht13, ⟨ts, ys, rfl, hts3, hys3⟩, ⟨te, rfl, hte3⟩, rfl⟩
    -- known
    refine fun d nd φ hd0 => ?_
    have k34 := same_upd (o := .ext φ) nd
    have hd34 : (upd H3 d (.ext φ)) d = some (.ext φ) := upd_same
    generalize (upd H3 d (.ext φ)) = H4 at k34 hd34 hd0 ⊢
    refine ⟨_, rfl, Nat.zero_le _, fun te5 nte5 => ⟨by show 3 ≤ sizeLine; omega, fun t5 nt5 => ?_⟩⟩
    have s45 : Same H4 (upd (upd H4 te5 (.tup [])) t5 (.tup [.ref ts, .ref te5, .str (tx [])])) := (same_upd nte5).trans (same_upd nt5)
    have hst5 : StT (upd (upd H4 te5 (.tup [])) t5 (.tup [.ref ts, .ref te5, .str (tx [])])) (.ref t5) (startM p es) := ⟨t5, .ref ts, .ref te5, .str (tx []), rfl, upd_same, ⟨ts, ys, rfl, s45 _ _ (k34 _ _ hts3), Paired.mapP hys3 fun _ _ z => z.im (Imm.of_same (k34.trans s45))⟩, ⟨te5, rfl, same_upd nt5 _ _ upd_same⟩, rfl⟩
    generalize (upd (upd H4 te5 (.tup [])) t5 (.tup [.ref ts, .ref te5, .str (tx [])])) = H5 at s45 hst5 ⊢
    refine ⟨s45 _ _ hd34, _, hst5.nk, keyS_tup _, keyS_dep _, fun ψ hd1 => ⟨_, _, _, rfl, ?_⟩⟩
    have nfd : f ≠ d := ne_of_none hf3 nd
    have ndH : H d = none := by
      cases e : H d with
      | none => rfl
      | some o =>
        have h1 := s03 _ _ e
        rw [nd] at h1
        cases h1
    have i56 : Imm H5 (upd H5 d (.ext ψ)) := Imm.wr (s45 _ _ hd34) (fun z => z)
    have i36 : Imm H3 (upd H5 d (.ext ψ)) := (Imm.of_same (k34.trans s45)).trans i56
    have s06 : Same H (upd H5 d (.ext ψ)) := Same.wr (s03.trans (k34.trans s45)) ndH
    have hf6 : (upd H5 d (.ext ψ)) f = some (.lst [.ref t2]) := (upd_ne nfd).trans (s45 _ _ (k34 _ _ hf3))
    have hfd : Paired (FoundT 1 (upd H5 d (.ext ψ))) [.ref t2] (bfsN p es 0) := .cons ⟨t2, .ref t1, [], rfl, i36.tup ht23, hst3.im i36, by show 0 < 1; omega⟩ .nil
    generalize (upd H5 d (.ext ψ)) = H6 at s06 hf6 hfd hd1 ⊢
    clear i56 i36 hst5 s45 hd34 k34 hd0 hys3 hts3 hst3 hte3 ht13 ht23 hf3 i2 s23 s03 hys2 hts2 s02 s12 t1 nte5 nt5 nte nt1 nt2 nf nd nts
    have hok := bfs_all (p := p) (es := es) (I := fun s => StaOk p es s ∧ Zero es s) ⟨startM_ok, zero_start⟩ fun s c h => ⟨stepM_ok h.1, zero_step h.2⟩
    refine ⟨fun m σ H7 => ∃ k x4 x5 x9 x10 ys, m = 101 - k ∧ σ = [some (.ref cd), some (.int 100), some (.int p.y), some (.ref ts), x4, x5, some (.ref f), some (.ref d), some (.int ((k : Nat) : Int)), x9, x10] ∧ Same H H7 ∧ H7 f = some (.lst ys) ∧
      Paired (FoundT (bfsN p es k).length H7) ys (bfsN p es k) ∧ NDict P w H7 d (knK (bfsN p es k)) ∧ k ≤ (bfsN p es k).length ∧ (bfsN p es k).length ≤ 100, ⟨_, 0, _, _, _, _, _, rfl, rfl, s06, hf6, hfd, hd1, Nat.zero_le _, by show 1 ≤ 100; omega⟩, ?_⟩
    clear hfd hf6 s06 hd1
    rintro m σ H7 ⟨k, x4, x5, x9, x10, ys, rfl, rfl, s7, hf7, hp7, hd7, hk, h100⟩
    have hyl : ys.length = (bfsN p es k).length := Paired.length hp7
    refine ⟨_, rfl, _, rfl, f, ys, rfl, .inl (.inl (.inl hf7)), _, _, rfl, rfl, _, rfl, ite2 (fun e => ?_) (fun e => ?_)⟩
    · have hlt : k < (bfsN p es k).length := by have := of_decide_eq_true e; omega
      obtain ⟨st, hst⟩ : ∃ st, (bfsN p es k)[k]? = some st := ⟨_, List.getElem?_eq_getElem hlt⟩
      have hms := List.mem_of_getElem? hst
      obtain ⟨v, hv, b, u, l, rfl, hb, hu2, hll⟩ := Paired.get hp7 hst
      have hnext : bfsN p es (k + 1) = visit p es (bfsN p es k) st (tried es) := by
        show (match (bfsN p es k)[k]? with
          | some s => visit p es (bfsN p es k) s (tried es)
          | none => bfsN p es k) = _
        rw [hst]
      obtain ⟨sok, szero⟩ := hok k st hms
      refine ⟨fun σ' H' => ∃ x4 x5 x9 x10 ys, σ' = [some (.ref cd), some (.int 100), some (.int p.y), some (.ref ts), x4, x5, some (.ref f), some (.ref d), some (.int ((k + 1 : Nat) : Int)), x9, x10] ∧ Same H H' ∧ H' f = some (.lst ys) ∧
        Paired (FoundT (bfsN p es (k + 1)).length H') ys (bfsN p es (k + 1)) ∧ NDict P w H' d (knK (bfsN p es (k + 1))) ∧ k + 1 ≤ (bfsN p es (k + 1)).length ∧ (bfsN p es (k + 1)).length ≤ 100, fun σ' H' hN => ?_, ?_⟩
      · obtain ⟨y4, y5, y9, y10, ys', e1, e2⟩ := hN
        exact ⟨101 - (k + 1), by omega, k + 1, y4, y5, y9, y10, ys', rfl, e1, e2⟩
      have h26 := tried_len es
      refine ⟨_, rfl, cd, lt, pt, en, cs, p, es, rfl, C.same s7, fun H8 r s8 nr hr => ?_⟩
      have s78 : Same H H8 := s7.trans s8
      have hf8 := s8 _ _ hf7
      have hd8 := hd7.same s8
      have hp8 := Paired.mapP hp7 fun _ _ z => z.im (Imm.of_same s8) (Nat.le_refl _)
      have hb8 := s8 _ _ hb
      have hu8 := hu2.im (Imm.of_same s8)
      have hv8 := hv
      obtain ⟨φ8, ed8⟩ := hd8.at
      have nrd : r ≠ d := ne_of hr ed8 (by intro z; cases z)
      have nrf : r ≠ f := (ne_of_none hf7 nr).symm
      have hcs : ∀ j, ∀ c ∈ (tried es).take j, c ∈ tried es := fun j c hc => List.mem_of_mem_take hc
      refine ⟨r, rfl, ⟨_, .inl (.inl hr)⟩, for_it (walk_list (xs := sgs (tried es))) (fun j σ H9 => ∃ x9 x10 zs, σ = [some (.ref cd), some (.int 100), some (.int p.y), some (.ref ts), x4, x5, some (.ref f), some (.ref d), some (.int ((k : Nat) : Int)), x9, x10] ∧ Same H H9 ∧ Kp (fun x => x = f ∨ x = d) H8 H9 ∧ H9 f = some (.lst zs) ∧
        Paired (FoundT (visit p es (bfsN p es k) st ((tried es).take j)).length H9) zs (visit p es (bfsN p es k) st ((tried es).take j)) ∧ NDict P w H9 d (knK (visit p es (bfsN p es k) st ((tried es).take j))))
        ⟨x9, x10, ys, rfl, s78, Kp.refl, hf8, hp8, hd8⟩ (fun j σ H9 _ ⟨_, _, _, _, _, k9, _⟩ => .inl (.inl (k9.kp _ _ hr (fun z => z.elim nrf nrd)))) ?_ ?_⟩
      · rintro j x σ H9 HA hj ⟨y9, y10, zs, rfl, s9, k9, hf9, hp9, hd9⟩ ⟨e9A, hy⟩
        have eA9 := e9A.symm
        subst eA9
        obtain ⟨c, gj, rfl⟩ : ∃ c, (tried es)[j]? = some c ∧ V.str (tx [c]) = x := by
          unfold sgs at hy
          rw [List.getElem?_map] at hy
          obtain ⟨z, hz, e⟩ := Option.map_eq_some_iff.mp hy
          exact ⟨z, hz, e⟩
        have hjl := (List.getElem?_eq_some_iff.mp gj).1
        obtain ⟨gs, hgs⟩ := visit_ext (p := p) (es := es) (s := st) (cs := (tried es).take j) (fs := bfsN p es k)
        have hvl := visit_len (p := p) (es := es) (s := st) (cs := (tried es).take j) (fs := bfsN p es k)
        rw [List.length_take] at hvl
        have hstV : (visit p es (bfsN p es k) st ((tried es).take j))[k]? = some st := by rw [hgs, List.getElem?_append_left hlt]; exact hst
        have hlt2 : (bfsN p es k).length ≤ (visit p es (bfsN p es k) st ((tried es).take j)).length := by rw [hgs, List.length_append]; omega
        have eq1 : visit p es (bfsN p es k) st ((tried es).take (j + 1)) = visit1 p es st (visit p es (bfsN p es k) st ((tried es).take j)) c := by
          rw [List.take_add_one, gj]
          exact visit_app
        rw [eq1]
        generalize visit p es (bfsN p es k) st ((tried es).take j) = V0 at hp9 hd9 hstV hlt2 hvl ⊢
        clear hb hu2 hll hb8 hu8 hv hv8 l
        obtain ⟨v, hv, b', u', l, rfl, hb, hu2, hll⟩ := Paired.get hp9 hstV
        have hzl : zs.length = V0.length := Paired.length hp9
        refine ⟨_, rfl, _, rfl, _, rfl, f, zs, _, .ref b', rfl, rfl, .inl (.inl hf9), atI_nat hv, b', _, _, _, rfl, rfl, .inl (.inl hb), rfl, _, rfl, cd, lt, pt, en, cs, p, es, u', st, c, rfl, C.same s9, hu2, sok, szero, fun HB g sB hg => ?_⟩
        have s0B := s9.trans sB
        have hfB := sB _ _ hf9
        have hdB := hd9.same sB
        have hpB := Paired.mapP hp9 fun _ _ z => z.im (Imm.of_same sB) (Nat.le_refl _)
        have kB := k9.trans (Kp.same sB)
        refine ⟨_, rfl, _, rfl, d, _, _, rfl, hdB, hg.nk, keyS_tup _, keyS_dep _, _, rfl, ?_⟩
        rw [valN_kn]
        refine ite2 (fun en2 => ?_) (fun en2 => ?_)
        · have hnew : stepM p es st c ∉ V0 := fun z => by rw [decide_eq_true z] at en2; cases en2
          have ev : visit1 p es st V0 c = V0 ++ [stepM p es st c] := if_neg hnew
          rw [ev]
          have hvn : valN (knK V0) (keyS (stepM p es st c)) = none := by
            cases q0 : valN (knK V0) (keyS (stepM p es st c)) with
            | none => rfl
            | some v =>
              have := valN_kn V0 (stepM p es st c)
              rw [q0, decide_eq_false hnew] at this
              cases this
          refine ⟨_, rfl, _, rfl, d, _, _, rfl, hdB, hg.nk, keyS_tup _, keyS_dep _, hvn, by rw [List.length_map]; omega, fun φ2 hdC => ?_⟩
          obtain ⟨φ1, edB⟩ := hdB.at
          have nfd2 : f ≠ d := ne_of hfB edB (by intro z; cases z)
          have iBC : Imm HB (upd HB d (.ext φ2)) := Imm.wr edB (fun z => z)
          have hfC : (upd HB d (.ext φ2)) f = some (.lst zs) := (upd_ne nfd2).trans hfB
          have hbC := iBC.tup (sB _ _ hb)
          refine ⟨_, rfl, .inl ⟨rfl, _, .inl (.inl hfC)⟩, _, rfl, _, rfl, _, rfl, f, zs, _, .ref b', rfl, rfl, .inl (.inl hfC), atI_nat hv, b', _, _, _, rfl, rfl, .inl (.inl hbC), rfl, _, rfl, _, _, rfl, rfl, by rw [tx_len, tx_len]; show _ + 1 ≤ _; omega, by show 2 ≤ sizeLine; omega, fun t9 nt9 => ?_⟩
          rw [tx_app]
          have hfD : (upd (upd HB d (.ext φ2)) t9 (.tup [g, .str (tx (l ++ [c]))])) f = some (.lst zs) := (upd_ne (ne_of_none hfC nt9)).trans hfC
          have iD : Imm HB (upd (upd HB d (.ext φ2)) t9 (.tup [g, .str (tx (l ++ [c]))])) := iBC.trans (Imm.new nt9)
          have edD : (upd (upd HB d (.ext φ2)) t9 (.tup [g, .str (tx (l ++ [c]))])) d = (upd HB d (.ext φ2)) d := upd_ne (ne_of_none upd_same nt9)
          have hdD : NDict P w (upd (upd HB d (.ext φ2)) t9 (.tup [g, .str (tx (l ++ [c]))])) d _ := hdC.im edD (Imm.new nt9)
          have htD : (upd (upd HB d (.ext φ2)) t9 (.tup [g, .str (tx (l ++ [c]))])) t9 = some (.tup [g, .str (tx (l ++ [c]))]) := upd_same
          have sD : Same H (upd (upd HB d (.ext φ2)) t9 (.tup [g, .str (tx (l ++ [c]))])) := Same.trans (Same.wr s0B ndH) (same_upd nt9)
          have kD : Kp (fun x => x = f ∨ x = d) H8 (upd (upd HB d (.ext φ2)) t9 (.tup [g, .str (tx (l ++ [c]))])) := (kB.trans (Kp.wr (.inr rfl) edB (fun z => z))).trans (Kp.new nt9)
          generalize (upd (upd HB d (.ext φ2)) t9 (.tup [g, .str (tx (l ++ [c]))])) = HD at hfD iD hdD htD sD kD ⊢
          refine ⟨f, _, _, rfl, rfl, hfD, by omega, ?_⟩
          have iE : Imm HD (upd HD f (.lst (zs ++ [.ref t9]))) := Imm.wr hfD (fun z => z)
          refine ⟨_, _, zs ++ [.ref t9], rfl, Same.wr sD nfH, kD.trans (Kp.wr (.inl rfl) hfD (fun z => z)), upd_same, ?_, ?_⟩
          · refine Paired.snoc ⟨t9, g, l ++ [c], rfl, iE.tup htD, hg.im (iD.trans iE), ?_⟩ (Paired.mapP hpB fun _ _ z => z.im (iD.trans iE) (by rw [List.length_append]; omega))
            rw [List.length_append, List.length_append]
            show l.length + 1 < V0.length + 1
            omega
          · have := hdD.im (H' := upd HD f (.lst (zs ++ [.ref t9]))) (upd_ne nfd2.symm) iE
            rw [show knK (V0 ++ [stepM p es st c]) = knK V0 ++ [(keyS (stepM p es st c), V.bl true)] from List.map_append ..]
            exact this
        · have hold : stepM p es st c ∈ V0 := by
            by_cases z : stepM p es st c ∈ V0
            · exact z
            · exact absurd (by rw [decide_eq_false z]; rfl) en2
          have ev : visit1 p es st V0 c = V0 := if_pos hold
          rw [ev]
          exact ⟨_, _, zs, rfl, s0B, kB, hfB, hpB, hdB⟩
      · rintro σ H9 ⟨y9, y10, zs, rfl, s9, k9, hf9, hp9, hd9⟩
        rw [List.take_of_length_le (by rw [sgs_len]; exact Nat.le_refl _), ← hnext] at hp9 hd9
        have hzl : zs.length = (bfsN p es (k + 1)).length := Paired.length hp9
        refine ⟨_, rfl, f, zs, rfl, .inl (.inl (.inl hf9)), _, rfl, _, _, rfl, rfl, _, rfl, ite2 (fun e3 => ?_) (fun e3 => ?_)⟩
        · refine q1 (fun z => ?_) H9 s9
          subst z
          have h1 := of_decide_eq_true e3
          rw [hzl, bfs_nil] at h1
          exact absurd h1 (by show ¬ ((1 : Int) > 100); decide)
        · have h101 : (bfsN p es (k + 1)).length ≤ 100 := by
            have h1 : ¬ ((zs.length : Int) > 100) := fun z => e3 (decide_eq_true z)
            omega
          refine ⟨_, rfl, _, _, rfl, rfl, _, _, _, _, zs, rfl, s9, hf9, hp9, hd9, ?_, h101⟩
          obtain ⟨gs, hgs⟩ := visit_ext (p := p) (es := es) (s := st) (cs := tried es) (fs := bfsN p es k)
          rw [hnext, hgs, List.length_append]
          omega
    · have hge : (bfsN p es k).length ≤ k := by
        have h1 : ¬ (((k : Nat) : Int) < (ys.length : Int)) := fun z => e (decide_eq_true z)
        omega
      exact ⟨_, rfl, q2 H7 f (bfsN p es k) s7 (bfs_closed hge) h100⟩
end
end Mw


set_option Elab.async false
set_option linter.all false
set_option maxRecDepth 100000
set_option maxHeartbeats 4000000
set_option pp.maxSteps 600
set_option pp.deepTerms false
namespace Mw
open PySem PySem.Spec PyProof.Rows L2
open C8 (Cal pe_c Mak pe_mk)
section
variable {P : Program} {w : World} {K : PySem.W.Frag} {mg : Str → Option Value} {base : Heap}
/-! ### l.near -/
abbrev NLNear : List Str := ["_law_draw", "_law_letters_here", "_law_base", "_law_at", "_law_rest", "_law_near_here"]
theorem scLNear : FnScope NLNear ["_law_draw", "_law_letters_here", "_law_base"] (defScope sLNear) := ⟨rfl, rfl, rfl, by decide +kernel, rfl, by decide +kernel, by decide +kernel⟩
def spLNear (P : Program) (w : World) (K : PySem.W.Frag) : Sp := fun vs H Q _ => ∃ (d a1 a2 s : Addr) (zs b : List Nat), vs = [.ref d, .ref s, .str (tx b)] ∧ Draw H d a1 a2 ∧ H s = some (.lst (sgs zs)) ∧ s ≠ a1 ∧ 1 ≤ zs.length ∧ zs.length ≤ 10 ∧ (∀ c ∈ zs, c ∈ alphaL) ∧ b.length ≤ 5 ∧ (∀ c ∈ b, c ∈ alphaL) ∧
  ∀ H' t, Kp (dA d a1) H H' → Draw H' d a1 a2 → 1 ≤ t.length → t.length ≤ 5 → (∀ c ∈ t, c ∈ alphaL) → Q (.str (tx t)) H'
theorem oLNear (T : Txt K mg) : Cal P w K mg base 4 "_law_near" (spLNear P w K) [] := by
  refine calD (dLNear_fn T) (gLNear T) scLNear (fun vs H Q E h => ?_) (fun _ _ _ _ _ _ us hl => match us, hl with | [_, _, _], _ => rfl) (fun cdv A outer s H vs Q E hr h => ?_)
  · obtain ⟨d, a1, a2, s, zs, b, rfl, _⟩ := h
    rfl
  · obtain ⟨d, a1, a2, s', zs, b, rfl, D, hs, ns1, z1, z2, za, b5, ba, q⟩ := h
    refine ⟨_, PSs.nox (pss_cons (ps_set (i := 3) scLNear.nd rfl (.inl rfl) (pe_c (oLTake T) hr (by decide) (by rfl) (pa_cons (pv 0) (pa_cons (pe_op op_add (pe_callB call_len_str (by rfl) (f_len T) (by decide +kernel) (pa_cons (pv 2) pa_nil)) pe_int) pa_nil))))
       (pss_cons (ps_set (i := 4) scLNear.nd rfl (.inl rfl) (pe_slice C8.sl_txt (pv 2) (po_some (pe_op op_add (pv 3) (pe_c (oLTake T) hr (by decide) (by rfl) (pa_cons (pv 0) (pa_cons pe_int pa_nil))))) po_none))
       (pss_cons (ps_set (i := 5) scLNear.nd rfl (.inl rfl) (pe_slice C8.sl_txt (pe_op op_add_str (pe_op op_add_str (pe_slice C8.sl_txt (pv 2) po_none (po_some (pv 3))) (pe_c (oLPick T) hr (by decide) (by rfl) (pa_cons (pv 0) (pa_cons (pe_op op_cat (pv 1) (pe_lst (pa_cons pe_str pa_nil))) pa_nil)))) (pv 4)) po_none (po_some pe_int)))
       (pss_one (ps_ret (pe_ifExp (PW.pt (pw_and (pt_cmpR op_ne (pv 5) pe_str (nomark _)) (pw_and1 (pt_cmpR op_gt (pe_c (oLTake T) hr (by decide) (by rfl) (pa_cons (pv 0) (pa_cons pe_int pa_nil))) pe_int (nomark _))))) (pv 5) (pe_c (oLString T) hr (by decide) (by rfl) (pa_cons (pv 0) (pa_cons (pv 1) (pa_cons pe_int (pa_cons pe_int pa_nil))))))))))), ?_⟩
    have hsz : sizeLine = 16777216 := sizeLine_eq
    have estr : ("" : Str) = tx [] := rfl
    have nsd : ¬ dA d a1 s' := by
      obtain ⟨ls, cs, r, t, m, DN⟩ := id D
      rintro (z | z)
      · rw [z, DN.hd] at hs; cases hs
      · exact ns1 z
    have htl := tx_len b
    refine ⟨_, rfl, _, rfl, _, rfl, by omega, _, _, rfl, rfl, d, a1, a2, b.length + 1, by rw [htl]; rfl, D, by omega, by omega, fun H1 k k1 D1 hk => ?_⟩
    refine ⟨_, rfl, _, rfl, _, rfl, d, a1, a2, 2, rfl, D1, by decide, by decide, fun H2 k2 kk2 D2 hk2 => ⟨_, _, rfl, rfl, _, rfl, _, rfl, by omega, ?_⟩⟩
    rw [show ((k : Nat) : Int) + ((k2 : Nat) : Int) = ((k + k2 : Nat) : Int) by omega, slice_post]
    have hs2 := kk2.kp _ _ (k1.kp _ _ hs nsd) nsd
    refine ⟨_, rfl, _, rfl, _, rfl, _, rfl, by omega, ?_⟩
    rw [slice_pre]
    refine ⟨_, rfl, _, rfl, by show 1 ≤ sizeLine; omega, fun l nl => ?_⟩
    have s3 := same_upd (o := .lst [.str ""]) nl
    refine ⟨s', l, _, _, rfl, rfl, s3 _ _ hs2, upd_same, by rw [sgs_len]; show _ + 1 ≤ _; omega, fun l2 nl2 => ?_⟩
    have s23 : Same H2 _ := s3.trans (same_upd (o := .lst (sgs zs ++ [.str ""])) nl2)
    refine ⟨d, a1, a2, l2, _, rfl, D2.same s23, upd_same, fun z => (D2.same s3).ne0 nl2 (.inr z), by simp, by rw [List.length_append, sgs_len]; show _ + 1 ≤ _; omega, fun H4 v k4 D4 hv => ?_⟩
    obtain ⟨t1, rfl, ht1, ht1a⟩ : ∃ t1 : List Nat, v = .str (tx t1) ∧ t1.length ≤ 1 ∧ ∀ c ∈ t1, c ∈ alphaL := by
      rcases List.mem_append.mp hv with y | y
      · obtain ⟨c, hc, rfl⟩ := sgs_mem y
        exact ⟨[c], rfl, Nat.le_refl _, fun x hx => by rw [List.mem_singleton.mp hx]; exact za c hc⟩
      · rw [List.mem_singleton.mp y]
        exact ⟨[], rfl, Nat.zero_le _, fun x hx => (by cases hx)⟩
    refine ⟨_, _, rfl, rfl, by rw [tx_len, tx_len, List.length_take]; omega, ?_⟩
    rw [tx_app]
    refine ⟨_, rfl, _, _, rfl, rfl, by rw [tx_len, tx_len, List.length_append, List.length_take, List.length_drop]; omega, ?_⟩
    rw [tx_app]
    refine ⟨_, rfl, _, rfl, by rw [tx_len, List.length_append, List.length_append, List.length_take, List.length_drop]; omega, ?_⟩
    rw [show (some (5 : Int)) = some ((5 : Nat) : Int) from rfl, slice_pre]
    have k04 : Kp (dA d a1) H H4 := k1.trans (kk2.trans ((Kp.same s23).trans k4))
    have hta : ∀ c ∈ ((b.take k ++ t1) ++ b.drop (k + k2)).take 5, c ∈ alphaL := fun c hc => by
      rcases List.mem_append.mp (List.mem_of_mem_take hc) with y | y
      · rcases List.mem_append.mp y with z | z
        · exact ba c (List.mem_of_mem_take z)
        · exact ht1a c z
      · exact ba c (List.mem_of_mem_drop y)
    have ht5 : (((b.take k ++ t1) ++ b.drop (k + k2)).take 5).length ≤ 5 := by rw [List.length_take]; omega
    generalize ((b.take k ++ t1) ++ b.drop (k + k2)).take 5 = t at hta ht5 ⊢
    have hs4 := k4.kp _ _ (s23 _ _ hs2) nsd
    have other : ∀ H5, Kp (dA d a1) H4 H5 → Draw H5 d a1 a2 → spLString P w K [.ref d, .ref s', .int 1, .int 5] H5 Q E := fun H5 k5 D5 => ⟨d, a1, a2, s', zs, 1, 5, rfl, D5, k5.kp _ _ hs4 nsd, ns1, z1, by omega, by decide, by decide, fun H6 t k6 D6 h1 h2 h3 => q H6 t (k04.trans (k5.trans k6)) D6 h1 h2 fun c hc => za c (h3 c hc)⟩
    refine ⟨_, rfl, rfl, _, rfl, ?_⟩
    by_cases he : t = []
    · subst he
      refine iteND rfl (iteF ?_)
      exact ⟨_, rfl, _, rfl, other _ Kp.refl D4⟩
    · refine iteNDn (fun z => he (tx_inj (V.str.inj z))) ?_
      refine ⟨_, rfl, d, a1, a2, 4, rfl, D4, by decide, by decide, fun H5 k5 kk5 D5 hk5 => ⟨_, _, rfl, rfl, _, rfl, ite2 (fun e => ?_) (fun e => ?_)⟩⟩
      · exact ⟨_, rfl, q H5 t (k04.trans kk5) D5 (List.length_pos_iff.mpr he) ht5 hta⟩
      · exact ⟨_, rfl, _, rfl, other _ kk5 D5⟩
/-- what _law_stands gives -/
def StQ (H0 : Hp) (p : Pr) (es : List Ent) : V → Hp → Prop := fun v H' => Same H0 H' ∧ ((v = .non ∧ es ≠ []) ∨ ∃ f M, v = .ref f ∧ Closed p es M ∧ M.length ≤ 100)
/-! ### l.wide -/
abbrev NLWide : List Str := ["_law_draw", "_law_cap", "_law_letters_here", "_law_bound", "_law_prices_here", "_law_dear", "_law_some", "_law_entries", "_law_base", "_law_turn", "_law_entry", "_law_case_here", "_law_found", "_law_word", "_law_own", "_law_names", "_law_at"]
theorem scLWide : FnScope NLWide ["_law_draw", "_law_cap"] (defScope sLWide) := ⟨rfl, rfl, rfl, by decide +kernel, rfl, by decide +kernel, by decide +kernel⟩
def spLWide (P : Program) (w : World) (K : PySem.W.Frag) : Sp := fun vs H Q _ => ∃ (d a1 a2 : Addr), vs = [.ref d, .int 100] ∧ Draw H d a1 a2 ∧
  ∀ H' T c lt pt en cs p es lim fv M, Kp (dA d a1) H H' → Draw H' d a1 a2 → CaseAt H' c lt pt en cs p es → H c = none → H lt = none → H en = none → H' T = some (.tup [.ref c, .int lim, fv]) → 0 ≤ lim → lim ≤ 9999 → Closed p es M → M.length ≤ 2000 → Q (.ref T) H'
theorem oLWide (T : Txt K mg) : Cal P w K mg base 5 "_law_wide" (spLWide P w K) [] := by
  refine calD (dLWide_fn T) (gLWide T) scLWide (fun vs H Q E h => ?_) (fun _ _ _ _ _ _ us hl => match us, hl with | [_, _], _ => rfl) (fun cdv A outer s H vs Q E hr h => ?_)
  · obtain ⟨d, a1, a2, rfl, _⟩ := h
    rfl
  · obtain ⟨d, a1, a2, rfl, D, q⟩ := h
    have hu := hu_of hr
    refine ⟨_, PSs.nox (pss_cons (ps_par (i := 2) (j := 3) (by rfl) scLWide.nd rfl rfl (by decide) rfl rfl (pa_cons (pe_c (oLLetters T) hr (by decide) (by rfl) (pa_cons (pv 0) (pa_cons (pe_op op_add pe_int (pe_c (oLTake T) hr (by decide) (by rfl) (pa_cons (pv 0) (pa_cons pe_int pa_nil)))) pa_nil))) (pa_cons (pe_c (oLPick T) hr (by decide) (by rfl) (pa_cons (pv 0) (pa_cons (pe_lst (pa_cons pe_int (pa_cons pe_int (pa_cons pe_int (pa_cons pe_int (pa_cons pe_int (pa_cons pe_int (pa_cons pe_int pa_nil)))))))) pa_nil))) pa_nil)) (by rfl))
       (pss_cons (ps_par (i := 4) (j := 5) (by rfl) scLWide.nd rfl rfl (by decide) rfl rfl (pa_cons (pe_c (oLPrices T) hr (by decide) (by rfl) (pa_cons (pv 0) pa_nil)) (pa_cons pe_int pa_nil)) (by rfl))
       (C8.pss_cut (ps_if (pt_cmpR op_eq (pe_c (oLTake T) hr (by decide) (by rfl) (pa_cons (pv 0) (pa_cons pe_int pa_nil))) pe_int (nomark _))
       (pss_cons (ps_set (i := 6) scLWide.nd rfl (.inl rfl) (pe_lst (pa_cons (pe_op op_add pe_int (pe_c (oLTake T) hr (by decide) (by rfl) (pa_cons (pv 0) (pa_cons pe_int pa_nil)))) (pa_cons (pe_op op_add pe_int (pe_c (oLTake T) hr (by decide) (by rfl) (pa_cons (pv 0) (pa_cons pe_int pa_nil)))) (pa_cons (pe_op op_add pe_int (pe_c (oLTake T) hr (by decide) (by rfl) (pa_cons (pv 0) (pa_cons pe_int pa_nil)))) pa_nil)))))
       (pss_cons (ps_par (i := 4) (j := 5) (by rfl) scLWide.nd rfl rfl (by decide) rfl rfl (pa_cons (pe_op (kCatA K rfl) (pe_callTy (kTup K rfl) (by rfl) (f_tuple T) (by decide +kernel) (pa_cons (pv 6) pa_nil)) (pe_tup (pa_cons (pe_c (oLPick T) hr (by decide) (by rfl) (pa_cons (pv 0) (pa_cons (pe_lst (pa_cons pe_non (pa_cons (pe_op op_add pe_int (pe_c (oLTake T) hr (by decide) (by rfl) (pa_cons (pv 0) (pa_cons pe_int pa_nil)))) pa_nil))) pa_nil))) pa_nil))) (pa_cons pe_int pa_nil)) (by rfl))
       (pss_one (ps_set (i := 3) scLWide.nd rfl (.inl rfl) (pe_op op_mul (pv 3) pe_int)))))
       pss_nil)
       (pss_cons (ps_par (i := 7) (j := 8) (by rfl) scLWide.nd rfl rfl (by decide) rfl rfl (pa_cons (pe_lst pa_nil) (pa_cons (pe_c (oLString T) hr (by decide) (by rfl) (pa_cons (pv 0) (pa_cons (pv 2) (pa_cons pe_int (pa_cons pe_int pa_nil))))) pa_nil)) (by rfl))
       (pss_cons (ps_for PassesOwn.never rfl (pi_range1 (by rfl) (f_range T) (pa_cons (pe_op op_add pe_int (pe_c (oLTake T) hr (by decide) (by rfl) (pa_cons (pv 0) (pa_cons pe_int pa_nil)))) pa_nil)) (pg_name (i := 9) scLWide.nd rfl (.inl rfl))
       (C8.pss_cut (ps_if (pt_cmpR (kNotIn K rfl) (pv 8) (pe_lc (own := [("_law_entry", 10)]) (g := gName 10) rfl scLWide.nd (kPiL K rfl (pv 7)) (blkOk_by (own := [("_law_entry", 10)]) (N := NLWide) (sc := defScope sLWide) (by decide +kernel)) (fun _ _ _ _ _ => (pg_name (i := 10) scLWide.nd rfl (.inl rfl))) (fun _ _ _ _ _ => pts_nil) (fun _ _ _ _ _ => (pe_ix (kIxT K rfl) (pv 10) pe_int (fun _ _ => rfl)))) (by rfl))
       (pss_one (ps_expr (pe_bm PySem.F.plainAttrs_list PySem.F.slot_list_append PySem.F.type_list_append mt_append (pv 7) (pa_cons (pe_tup (pa_cons (pv 8) (pa_cons (pe_op op_add (pv 5) (pe_c (oLPick T) hr (by decide) (by rfl) (pa_cons (pv 0) (pa_cons (pe_lst (pa_cons pe_int (pa_cons pe_int (pa_cons pe_int (pa_cons pe_int (pa_cons pe_int (pa_cons (pe_c (oLTake T) hr (by decide) (by rfl) (pa_cons (pv 0) (pa_cons pe_int pa_nil))) pa_nil))))))) pa_nil)))) pa_nil))) pa_nil))))
       pss_nil)
       (pss_one (ps_set (i := 8) scLWide.nd rfl (.inl rfl) (pe_c (oLNear T) hr (by decide) (by rfl) (pa_cons (pv 0) (pa_cons (pv 2) (pa_cons (pv 8) pa_nil))))))))
       (pss_cons (ps_set (i := 11) scLWide.nd rfl (.inl rfl) (pe_disp (pps_cons pe_str (pv 2) (pps_cons pe_str (pv 4) (pps_cons pe_str (pv 7) pps_nil))) (by rfl) (by rfl) (fun z => by cases z) (by decide)))
       (pss_cons (ps_set (i := 12) scLWide.nd rfl (.inl rfl) (pe_cutE (pe_c (oLStands T) hr (by decide) (by rfl) (pa_cons (pv 11) (pa_cons (pv 1) pa_nil)))))
       (pss_cons (ps_while PassesOwn.never (pt_cmpR op_isN (pv 12) pe_non (nomark _))
       (pss_cons (ps_setLc (i := 6) (own := [("_law_word", 13), ("_law_own", 14)]) (g := gTup K 2 (gCons (gName 13) (gCons (gName 14) gNil))) rfl scLWide.nd rfl rfl (sw_true rfl rfl rfl (by decide +kernel)) (kPiL K rfl (pe_dget hu (pv 11) pe_str (fun _ _ => rfl))) (blkOk_by (own := [("_law_word", 13), ("_law_own", 14)]) (N := NLWide) (sc := defScope sLWide) (by decide +kernel)) (fun _ _ _ _ _ => (pg_tup rfl (pgs_cons (pg_name (i := 13) scLWide.nd rfl (.inl rfl)) (pgs_cons (pg_name (i := 14) scLWide.nd rfl (.inl rfl)) pgs_nil)))) (fun _ _ _ _ _ => (pts_one (pt_cmpR op_gt (pe_callB call_len_str (by rfl) (f_len T) (by decide +kernel) (pa_cons (pv 13) pa_nil)) pe_int (nomark _)))) (fun _ _ _ _ _ => (pe_tup (pa_cons (pe_slice C8.sl_txt (pv 13) po_none (po_some (pe_un un_neg pe_int))) (pa_cons (pv 14) pa_nil)))))
       (pss_cons (ps_set (i := 15) scLWide.nd rfl (.inr rfl) (pe_lc (own := [("_law_entry", 10)]) (g := gName 10) rfl scLWide.nd (kPiL K rfl (pv 6)) (blkOk_by (own := [("_law_entry", 10)]) (N := NLWide) (sc := defScope sLWide) (by decide +kernel)) (fun _ _ _ _ _ => (pg_name (i := 10) scLWide.nd rfl (.inl rfl))) (fun _ _ _ _ _ => pts_nil) (fun _ _ _ _ _ => (pe_ix (kIxT K rfl) (pv 10) pe_int (fun _ _ => rfl)))))
       (pss_cons (ps_dput hu (pv 11) pe_str (pe_lc (own := [("_law_at", 16), ("_law_entry", 10)]) (g := gTup K 2 (gCons (gName 16) (gCons (gName 10) gNil))) rfl scLWide.nd (pi_enum (by rfl) (f_enumerate T) (pa_cons (pv 6) pa_nil)) (blkOk_by (own := [("_law_at", 16), ("_law_entry", 10)]) (N := NLWide) (sc := defScope sLWide) (by decide +kernel)) (fun _ _ _ _ _ => (pg_tup rfl (pgs_cons (pg_name (i := 16) scLWide.nd rfl (.inl rfl)) (pgs_cons (pg_name (i := 10) scLWide.nd rfl (.inl rfl)) pgs_nil)))) (fun _ _ _ _ _ => (pts_one (pt_cmpR (kNotIn K rfl) (pe_ix (kIxT K rfl) (pv 10) pe_int (fun _ _ => rfl)) (pe_slice (kSlL K rfl) (pv 15) po_none (po_some (pv 16))) (by rfl)))) (fun _ _ _ _ _ => (pv 10))) rfl)
       (pss_one (ps_set (i := 12) scLWide.nd rfl (.inl rfl) (pe_cutE (pe_c (oLStands T) hr (by decide) (by rfl) (pa_cons (pv 11) (pa_cons (pv 1) pa_nil))))))))))
       (pss_one (ps_ret (pe_tup (pa_cons (pv 11) (pa_cons (pe_op op_add (pv 3) (pv 5)) (pa_cons (pv 12) pa_nil)))))))))))))), ?_⟩
    have hsz : sizeLine = 16777216 := sizeLine_eq
    have estr : ("" : Str) = tx [] := rfl
    -- letters, bound
    refine ⟨_, rfl, _, rfl, d, a1, a2, 4, rfl, D, by decide, by decide, fun H1 k k1 D1 hk => ⟨_, _, rfl, rfl, d, a1, a2, 2 + k, ?_, D1, by omega, fun H2 lt cs k2 D2 nl1 hlt hcl hca => ?_⟩⟩
    · show [V.ref d, V.int (2 + (k : Int))] = _
      rw [show ((2 + k : Nat) : Int) = 2 + (k : Int) by omega]
    have nl : H lt = none := D1.fr k1 nl1
    have ndl : ¬ dA d a1 lt := D.ne0 nl
    refine ⟨_, rfl, by show 7 ≤ sizeLine; omega, fun l nl0 => ⟨d, a1, a2, l, _, rfl, D2.same (same_upd nl0), upd_same, fun z => D2.ne0 nl0 (.inr z), by decide, by decide, fun H3 v k3 D3 hv => ⟨_, _, rfl, ?_⟩⟩⟩
    obtain ⟨bd, rfl, b0, b6⟩ : ∃ z : Int, v = .int z ∧ 0 ≤ z ∧ z ≤ 6 := by
      simp only [List.mem_cons, List.not_mem_nil, or_false] at hv
      rcases hv with rfl | rfl | rfl | rfl | rfl | rfl | rfl <;> exact ⟨_, rfl, by decide, by decide⟩
    have k03 : Kp (dA d a1) H H3 := k1.trans (k2.trans ((Kp.new nl0).trans k3))
    have hlt3 := ((Kp.new nl0).trans k3).kp _ _ hlt ndl
    clear k3 k2 k1 D2 D1 nl0 hlt nl1
    -- prices, dear
    refine ⟨_, rfl, d, a1, a2, rfl, D3, fun H4 pt p k4 D4 hpt pok => ⟨_, _, rfl, ?_⟩⟩
    have k04 := k03.trans k4
    have hlt4 := k4.kp _ _ hlt3 ndl
    clear k03 k4 D3 hlt3
    refine ⟨fun σ' H' => ∃ (bd dr : Int) (pt : Addr) (p : Pr) (x6 : Option V), σ' = [some (.ref d), some (.int 100), some (.ref lt), some (.int bd), some (.ref pt), some (.int dr), x6, none, none, none, none, none, none, none, none, none, none] ∧ Kp (dA d a1) H H' ∧ Draw H' d a1 a2 ∧ H' lt = some (.lst (sgs cs)) ∧ PrT H' pt p ∧ PrOk p ∧ 0 ≤ bd ∧ bd ≤ 24 ∧ 0 ≤ dr ∧ dr ≤ 900, ?_, ?_⟩
    · refine ⟨_, rfl, d, a1, a2, 4, rfl, D4, by decide, by decide, fun H5 k5 kk5 D5 hk5 => ⟨rfl, _, rfl, ite2 (fun e => ?_) (fun e => ?_)⟩⟩
      · clear e
        refine ⟨_, rfl, d, a1, a2, 4, rfl, D5, by decide, by decide, fun H6 x1 kk6 D6 hx1 => ⟨_, _, rfl, rfl, _, rfl, d, a1, a2, 4, rfl, D6, by decide, by decide, fun H7 x2 kk7 D7 hx2 => ⟨_, _, rfl, rfl, _, rfl, d, a1, a2, 6, rfl, D7, by decide, by decide, fun H8 x3 kk8 D8 hx3 => ⟨_, _, rfl, rfl, by show 3 ≤ sizeLine; omega, fun l nl0 => ?_⟩⟩⟩⟩
        have hl9 : (upd H8 l (.lst [.int (6 + (x1 : Int)), .int (3 + (x2 : Int)), .int (4 + (x3 : Int))])) l = some (.lst [.int (6 + (x1 : Int)), .int (3 + (x2 : Int)), .int (4 + (x3 : Int))]) := upd_same
        have k9 : Kp (dA d a1) H4 (upd H8 l (.lst [.int (6 + (x1 : Int)), .int (3 + (x2 : Int)), .int (4 + (x3 : Int))])) := kk5.trans (kk6.trans (kk7.trans (kk8.trans (Kp.new nl0))))
        have D9 : Draw (upd H8 l (.lst [.int (6 + (x1 : Int)), .int (3 + (x2 : Int)), .int (4 + (x3 : Int))])) d a1 a2 := D8.same (same_upd nl0)
        generalize (upd H8 l (.lst [.int (6 + (x1 : Int)), .int (3 + (x2 : Int)), .int (4 + (x3 : Int))])) = H9 at hl9 k9 D9 ⊢
        refine ⟨_, rfl, l, _, rfl, .inl ⟨.inl (.inl hl9), fun t nt => ?_⟩⟩
        have htA : (upd H9 t (.tup [.int (6 + (x1 : Int)), .int (3 + (x2 : Int)), .int (4 + (x3 : Int))])) t = some (.tup [.int (6 + (x1 : Int)), .int (3 + (x2 : Int)), .int (4 + (x3 : Int))]) := upd_same
        have kA := k9.trans (Kp.new (o := .tup [.int (6 + (x1 : Int)), .int (3 + (x2 : Int)), .int (4 + (x3 : Int))]) nt)
        have DA := D9.same (same_upd (o := .tup [.int (6 + (x1 : Int)), .int (3 + (x2 : Int)), .int (4 + (x3 : Int))]) nt)
        generalize (upd H9 t (.tup [.int (6 + (x1 : Int)), .int (3 + (x2 : Int)), .int (4 + (x3 : Int))])) = HA at htA kA DA ⊢
        refine ⟨_, rfl, _, rfl, d, a1, a2, 6, rfl, DA, by decide, by decide, fun HB x4 kkB DB hx4 => ⟨_, _, rfl, rfl, by show 2 ≤ sizeLine; omega, fun l2 nl2 => ⟨d, a1, a2, l2, _, rfl, DB.same (same_upd nl2), upd_same, fun z => DB.ne0 nl2 (.inr z), by show 1 ≤ 2; omega, by show 2 ≤ 1000; omega, fun HC v kkC DC hv => ?_⟩⟩⟩
        obtain ⟨o, rfl, ho⟩ : ∃ o : Option Int, v = optI o ∧ ∀ s, o = some s → 1 ≤ s ∧ s ≤ 9 := by
          simp only [List.mem_cons, List.not_mem_nil, or_false] at hv
          rcases hv with rfl | rfl
          · exact ⟨none, rfl, fun s e => by cases e⟩
          · exact ⟨some _, rfl, fun s e => by cases e; omega⟩
        have kAC : Kp (dA d a1) HA HC := kkB.trans ((Kp.new nl2).trans kkC)
        have htC := kAC.im.tup htA
        refine ⟨by show 1 ≤ sizeLine; omega, fun t2 nt2 => ⟨t, t2, _, [optI o], rfl, rfl, .inl (.inl (same_upd nt2 _ _ htC)), .inl (.inl upd_same), by show 4 ≤ sizeLine; omega, fun z => (by cases z), fun _ z => (by cases z), fun _ _ T nT => ⟨_, _, rfl, ?_⟩⟩⟩
        have kE := kA.trans (kAC.trans ((Kp.new (o := .tup [optI o]) nt2).trans (Kp.new (o := .tup ([.int (6 + (x1 : Int)), .int (3 + (x2 : Int)), .int (4 + (x3 : Int))] ++ [optI o])) nT)))
        refine ⟨_, rfl, _, _, rfl, rfl, .inr ⟨by decide, by decide⟩, ?_⟩
        exact ⟨bd * 4, 900, T, ⟨6 + (x1 : Int), 3 + (x2 : Int), 4 + (x3 : Int), o⟩, _, rfl, k04.trans kE, DC.same ((same_upd nt2).trans (same_upd nT)), kE.kp _ _ hlt4 ndl, upd_same, ⟨⟨by show 1 ≤ 6 + (x1 : Int); omega, by show 6 + (x1 : Int) ≤ 9; omega⟩, ⟨by show 1 ≤ 3 + (x2 : Int); omega, by show 3 + (x2 : Int) ≤ 9; omega⟩, ⟨by show 1 ≤ 4 + (x3 : Int); omega, by show 4 + (x3 : Int) ≤ 9; omega⟩, ho⟩, by omega, by omega, by decide, by decide⟩
      · exact ⟨bd, 0, pt, p, _, rfl, k04.trans kk5, D5, kk5.kp _ _ hlt4 ndl, kk5.im.tup hpt, pok, b0, by omega, by decide, by decide⟩
    clear hpt pok b0 b6 hlt4 k04 D4
    rintro σ' H5 ⟨bd, dr, pt, p, x6, rfl, k5, D5, hlt5, hpt5, pok, b0, b24, dr0, dr9⟩
    have hlt1 : lt ≠ a1 := fun z => ndl (.inr z)
    -- entries, base
    refine ⟨Nat.zero_le _, fun en nen => ?_⟩
    have D6 := D5.same (same_upd (o := .lst []) nen)
    have k6 : Kp (dA d a1) H (upd H5 en (.lst [])) := k5.trans (Kp.new nen)
    have hen6 : (upd H5 en (.lst [])) en = some (.lst []) := upd_same
    have hlt6 := same_upd (o := .lst []) nen _ _ hlt5
    have hpt6 := (Imm.new (o := .lst []) nen).tup hpt5
    have ne0 : H en = none := D5.fr k5 nen
    have nel : lt ≠ en := ne_of_none hlt5 nen
    have nde : ¬ dA d a1 en := D5.ne0 nen
    generalize (upd H5 en (.lst [])) = H6 at D6 k6 hen6 hlt6 hpt6 ⊢
    refine ⟨_, rfl, _, rfl, d, a1, a2, lt, cs, 2, 5, rfl, D6, hlt6, hlt1, by omega, by omega, by decide, by decide, fun H7 base0 k7 D7 hb1 hb2 hb3 => ⟨_, _, rfl, ?_⟩⟩
    refine ⟨_, rfl, d, a1, a2, 3, rfl, D7, by decide, by decide, fun H8 kk k8 D8 hkk => ⟨_, _, rfl, rfl, _, rfl, by omega, by omega, ?_⟩⟩
    have hcount : ((1 : Int) + ((kk : Nat) : Int)).toNat = 1 + kk := by omega
    have k68 := k7.trans k8
    refine for_it walk_range (fun i σ H9 => ∃ x9 x10 es b, σ = [some (.ref d), some (.int 100), some (.ref lt), some (.int bd), some (.ref pt), some (.int dr), x6, some (.ref en), some (.str (tx b)), x9, x10, none, none, none, none, none, none] ∧ Kp (dA d a1) H H9 ∧ Draw H9 d a1 a2 ∧ H9 lt = some (.lst (sgs cs)) ∧ PrT H9 pt p ∧ (∃ vs, H9 en = some (.lst vs) ∧ EntsV H9 vs es) ∧ EntsOk es ∧ es.length ≤ i ∧ 1 ≤ b.length ∧ b.length ≤ 5 ∧ ∀ c ∈ b, c ∈ alphaL)
      ⟨_, _, [], base0, rfl, k6.trans k68, D8, k68.kp _ _ hlt6 ndl, k68.im.tup hpt6, ⟨[], k68.kp _ _ hen6 nde, .nil⟩, ⟨fun e he => (by cases he), Nat.zero_le _, .nil⟩, Nat.le_refl _, by omega, hb2, fun c hc => hca c (hb3 c hc)⟩ (fun _ _ _ _ _ => trivial) ?_ ?_
    · rintro i x σ H9 HA hi ⟨x9, x10, es, b, rfl, k9, D9, hlt9, hpt9, ⟨vs, hv1, hv2⟩, ok, hes, b1, b5, ba⟩ ⟨e9A, ex⟩
      have eA9 := e9A.symm
      subst eA9
      have hi3 : i < 3 := by omega
      have hl : vs.length = es.length := Paired.length hv2
      refine ⟨fun σ' H' => ∃ x10 es', σ' = [some (.ref d), some (.int 100), some (.ref lt), some (.int bd), some (.ref pt), some (.int dr), x6, some (.ref en), some (.str (tx b)), some x, x10, none, none, none, none, none, none] ∧ Kp (dA d a1) H H' ∧ Draw H' d a1 a2 ∧ H' lt = some (.lst (sgs cs)) ∧ PrT H' pt p ∧ (∃ vs, H' en = some (.lst vs) ∧ EntsV H' vs es') ∧ EntsOk es' ∧ es'.length ≤ i + 1, ?_, ?_⟩
      · refine ⟨_, rfl, _, rfl, en, rfl, ⟨_, .inl (.inl hv1)⟩, fun D0 hD0 => lc_map (walk_list (xs := vs)) noA (fun i ys H => ys = txs ((wds es).take i)) hD0 id (by omega) (fun i ys H _ k _ => .inl (.inl (k.toSame _ _ hv1))) rfl ?_ ?_⟩
        · rintro j x H1 H2 ys hj k rfl ⟨e12, hy⟩ eD push
          have e21 := e12.symm
          subst e21
          obtain ⟨e, he, ea, rfl, hea⟩ := Paired.getL hv2 hy
          refine ⟨rfl, _, rfl, ea, _, _, _, rfl, rfl, .inl (.inl (k.im.tup hea)), rfl, push _ _ Kp.refl ?_⟩
          have g1 : (wds es)[j]? = some e.1 := by rw [List.getElem?_map, he]; rfl
          rw [List.take_add_one, g1]
          unfold txs
          rw [List.map_append]
          rfl
        intro HB ys kB eD tB
        subst tB
        rw [List.take_of_length_le (by rw [List.length_map]; omega)] at eD
        refine ⟨D0, _, rfl, .inl (.inl (.inl eD)), rfl, txs_flat _, _, rfl, ?_⟩
        show if (!inV (.str (tx b)) (txs (wds es))) = true then _ else _
        rw [inV_txs]
        have sB := kB.toSame
        have DB := D9.same sB
        have k9B := k9.trans (Kp.same sB)
        have hltB := sB _ _ hlt9
        have hptB := (Imm.of_same sB).tup hpt9
        have hb1 := sB _ _ hv1
        have hb2 := hv2.im (Imm.of_same sB)
        by_cases hin : b ∈ wds es
        · refine iteND hin ?_
          exact ⟨_, es, rfl, k9B, DB, hltB, hptB, ⟨vs, hb1, hb2⟩, ok, by omega⟩
        · refine iteNDn hin ?_
          refine ⟨_, rfl, .inl ⟨rfl, _, .inl (.inl hb1)⟩, _, rfl, _, rfl, _, rfl, _, rfl, d, a1, a2, 9, rfl, DB, by decide, by decide, fun HC k2 kC DC hk2 => ⟨by show 6 ≤ sizeLine; omega, fun l nl2 => ⟨d, a1, a2, l, _, rfl, DC.same (same_upd nl2), upd_same, fun z => DC.ne0 nl2 (.inr z), by show 1 ≤ 6; omega, by show 6 ≤ 1000; omega, fun HD v kD DD hv => ?_⟩⟩⟩
          obtain ⟨z, rfl, z1, z2⟩ : ∃ z : Int, v = .int z ∧ 0 ≤ z ∧ z ≤ 11 := by
            simp only [List.mem_cons, List.not_mem_nil, or_false] at hv
            rcases hv with rfl | rfl | rfl | rfl | rfl | rfl
            all_goals first | exact ⟨_, rfl, by decide, by decide⟩ | exact ⟨_, rfl, by omega, by omega⟩
          refine ⟨_, _, rfl, rfl, by show 2 ≤ sizeLine; omega, fun t nt => ?_⟩
          have kE : Kp (dA d a1) HB (upd HD t (.tup [.str (tx b), .int (dr + z)])) := kC.trans ((Kp.new nl2).trans (kD.trans (Kp.new nt)))
          have DE : Draw (upd HD t (.tup [.str (tx b), .int (dr + z)])) d a1 a2 := DD.same (same_upd nt)
          have htE : (upd HD t (.tup [.str (tx b), .int (dr + z)])) t = some (.tup [.str (tx b), .int (dr + z)]) := upd_same
          generalize (upd HD t (.tup [.str (tx b), .int (dr + z)])) = HE at kE DE htE ⊢
          have hbE := kE.kp _ _ hb1 nde
          have hltE := kE.kp _ _ hltB ndl
          refine ⟨en, _, _, rfl, rfl, hbE, by omega, ?_⟩
          have iF : Imm HE (upd HE en (.lst (vs ++ [.ref t]))) := Imm.wr hbE (fun z => z)
          have eok : EntOk (b, dr + z) := ⟨ba, b1, b5, by show 0 ≤ dr + z; omega, by show dr + z ≤ 999; omega⟩
          refine ⟨_, es ++ [(b, dr + z)], rfl, (k9B.trans kE).bk ne0 hbE (fun z => z), DE.bk D ne0 hbE (fun z => z), (upd_ne nel).trans hltE, iF.tup (kE.im.tup hptB), ⟨_, upd_same, Paired.snoc ⟨t, rfl, iF.tup htE⟩ (Paired.mapP hb2 fun _ _ q => q.im (kE.im.trans iF))⟩, ents_snoc ok eok hin (by omega), by rw [List.length_append]; exact Nat.succ_le_succ hes⟩
      rintro σ' H10 ⟨x10', es', rfl, k10, D10, hlt10, hpt10, ⟨vs', hw1, hw2⟩, ok', hes'⟩
      refine ⟨_, rfl, _, rfl, _, rfl, d, a1, a2, lt, cs, b, rfl, D10, hlt10, hlt1, by omega, by omega, hca, b5, ba, fun H11 t k11 D11 t1 t5 ta => ?_⟩
      exact ⟨_, _, es', t, rfl, k10.trans k11, D11, k11.kp _ _ hlt10 ndl, k11.im.tup hpt10, ⟨vs', k11.kp _ _ hw1 nde, hw2.im k11.im⟩, ok', hes', t1, t5, ta⟩
    clear hcount k68 hen6 hpt6 hlt6 k7 D7 k8 D8 k6 D6
    rintro σ H9 ⟨x9, x10, es, b, rfl, k9, D9, hlt9, hpt9, ⟨vs, hv1, hv2⟩, ok, hes, _, _, _⟩
    -- the case
    refine fun c nc => ?_
    have s9 := same_upd (o := .dK []) nc
    have hc9 : (upd H9 c (.dK [])) c = some (.dK []) := upd_same
    refine ⟨_, rfl, _, rfl, _, rfl, hc9, csKV lt pt en, rfl, by show 3 ≤ 15; omega, ?_⟩
    rw [csM]
    have nc0 : H c = none := D9.fr k9 nc
    have nlc : lt ≠ c := ne_of_none hlt9 nc
    have nec : en ≠ c := ne_of_none hv1 nc
    have ndc : ¬ dA d a1 c := D9.ne0 nc
    have kA : Kp (dA d a1) H (upd (upd H9 c (.dK [])) c (.dK (csKV lt pt en))) := (k9.trans (Kp.new nc)).bk nc0 hc9 (fun z => z)
    have DA : Draw (upd (upd H9 c (.dK [])) c (.dK (csKV lt pt en))) d a1 a2 := (D9.same s9).bk D nc0 hc9 (fun z => z)
    have iA : Imm H9 (upd (upd H9 c (.dK [])) c (.dK (csKV lt pt en))) := (Imm.new nc).trans (Imm.wr hc9 (fun z => z))
    have CA : CaseAt (upd (upd H9 c (.dK [])) c (.dK (csKV lt pt en))) c lt pt en cs p es := ⟨upd_same, (upd_ne nlc).trans ((upd_ne nlc).trans hlt9), iA.tup hpt9, ⟨vs, (upd_ne nec).trans ((upd_ne nec).trans hv1), hv2.im iA⟩, hca, by omega, pok, ok⟩
    generalize (upd (upd H9 c (.dK [])) c (.dK (csKV lt pt en))) = HA at kA DA CA ⊢
    clear iA hc9 s9 hv1 hv2 hpt9 hlt9 D9 k9 hpt5 hlt5 D5 k5 hes ok nec nlc
    refine ⟨StQ HA p es, ⟨_, rfl, _, rfl, c, lt, pt, en, cs, p, es, rfl, CA, fun hne H' s => ⟨s, .inl ⟨rfl, hne⟩⟩, fun H' f M s h1 h2 => ⟨s, .inr ⟨f, M, rfl, h1, h2⟩⟩⟩, ?_⟩
    rintro fv HB ⟨sB, hfv⟩
    refine ⟨fun m σ H' => ∃ en es fv x6 x7 x10 x13 x14 x15 x16, m = wsum es ∧ σ = [some (.ref d), some (.int 100), some (.ref lt), some (.int bd), some (.ref pt), some (.int dr), x6, x7, some (.str (tx b)), x9, x10, some (.ref c), some fv, x13, x14, x15, x16] ∧ Kp (dA d a1) H H' ∧ Draw H' d a1 a2 ∧ CaseAt H' c lt pt en cs p es ∧ H en = none ∧ ((fv = .non ∧ es ≠ []) ∨ ∃ f M, fv = .ref f ∧ Closed p es M ∧ M.length ≤ 100),
      ⟨_, en, es, fv, _, _, _, _, _, _, _, rfl, rfl, kA.trans (Kp.same sB), DA.same sB, CA.same sB, ne0, hfv⟩, ?_⟩
    clear hfv sB CA DA kA ne0 nel nde
    rintro m σ H2 ⟨en, es, fv, x6, x7, x10, x13, x14, x15, x16, rfl, rfl, k2, D2, C2, ne0, hfv⟩
    rcases hfv with ⟨rfl, hes⟩ | ⟨f, M, rfl, hM, hM100⟩
    · have ok := C2.eok
      have DW := D2
      have few := ok.few
      obtain ⟨vs, hv1, hv2⟩ := C2.he
      have hl : vs.length = es.length := Paired.length hv2
      refine ⟨_, rfl, rfl, true, rfl, iteT ⟨fun σ' H' => ∃ en es' fv x6 x7 x10 x13 x14 x15 x16, wsum es' < wsum es ∧ σ' = [some (.ref d), some (.int 100), some (.ref lt), some (.int bd), some (.ref pt), some (.int dr), x6, x7, some (.str (tx b)), x9, x10, some (.ref c), some fv, x13, x14, x15, x16] ∧ Kp (dA d a1) H H' ∧ Draw H' d a1 a2 ∧ CaseAt H' c lt pt en cs p es' ∧ H en = none ∧ ((fv = .non ∧ es' ≠ []) ∨ ∃ f M, fv = .ref f ∧ Closed p es' M ∧ M.length ≤ 100),
        fun σ' H' ⟨en, es', fv, x6, x7, x10, x13, x14, x15, x16, h1, h2⟩ => ⟨_, h1, en, es', fv, x6, x7, x10, x13, x14, x15, x16, rfl, h2⟩, ?_⟩⟩
      refine ⟨_, rfl, c, _, rfl, C2.gE, en, rfl, ⟨_, .inl (.inl hv1)⟩, fun D0 hD0 => lc_gen (walk_list (xs := vs)) noA (fun i ys H => EntsV H ys (shortL (es.take i))) hD0 id (by omega) (fun i ys H _ k _ => .inl (.inl (k.toSame _ _ hv1))) .nil ?_ ?_⟩
      · rintro i x H5 H6 ys hi k hys ⟨e12, hy⟩ eD push skip
        have e21 := e12.symm
        subst e21
        obtain ⟨e1, he1, ea, rfl, hea⟩ := Paired.getL hv2 hy
        have eok := ok.all e1 (List.mem_of_getElem? he1)
        have e5 := eok.hi
        have htl := tx_len e1.1
        have eshort : shortL (es.take (i + 1)) = shortL (es.take i) ++ shortL [e1] := by
          unfold shortL
          rw [List.take_add_one, he1, List.filter_append, List.map_append]
          rfl
        refine ⟨ea, _, rfl, .inl (.inl (k.im.tup hea)), rfl, _, _, rfl, _, _, rfl, rfl, rfl, ?_⟩
        refine ⟨_, rfl, _, rfl, by omega, _, _, rfl, rfl, _, rfl, ite2 (fun e3 => ?_) (fun e3 => ?_)⟩
        · have h1 : 1 < e1.1.length := by
            have := of_decide_eq_true e3
            omega
          refine ⟨_, rfl, _, rfl, _, rfl, _, rfl, by omega, _, rfl, by show 2 ≤ sizeLine; omega, fun t nt => ?_⟩
          rw [slice_butlast]
          have iT : Imm H5 (upd (upd H5 t (.tup [.str (tx e1.1.dropLast), .int e1.2])) D0 (.lst (ys ++ [.ref t]))) := (Imm.new nt).trans (Imm.wr ((same_upd nt) _ _ eD) (fun z => z))
          refine push _ _ (Kp.new nt) ?_
          rw [eshort, show shortL [e1] = [(e1.1.dropLast, e1.2)] by unfold shortL; rw [List.filter_cons, decide_eq_true h1]; rfl]
          refine Paired.snoc ⟨t, rfl, (Imm.wr ((same_upd nt) _ _ eD) (fun z => z)).tup upd_same⟩ (hys.im iT)
        · have h1 : ¬ 1 < e1.1.length := fun z => e3 (decide_eq_true (by omega))
          refine skip _ Kp.refl ?_
          rw [eshort, show shortL [e1] = [] by unfold shortL; rw [List.filter_cons, decide_eq_false h1]; rfl, List.append_nil]
          exact hys
      intro H5 ys k5 hD5 hys
      rw [List.take_of_length_le (by omega)] at hys
      have hsh := shorter ok
      have hsl3 : (shortL es).length ≤ 4 := by
        have : (shortL es).length ≤ es.length := by
          unfold shortL
          rw [List.length_map]
          exact List.length_filter_le ..
        omega
      have hfr : freshL (shortL es) = freshI (shortL es) (shortL es).length := rfl
      generalize shortL es = sl at hys hsh hsl3 hfr
      have hyl : ys.length = sl.length := Paired.length hys
      -- names
      refine ⟨_, rfl, D0, rfl, ⟨_, .inl (.inl hD5)⟩, fun D1 hD1 => lc_map (walk_list (xs := ys)) noA (fun j us H => us = txs ((wd1 sl).take j)) hD1 id (by omega) (fun j us H _ k _ => .inl (.inl (k.toSame _ _ hD5))) rfl ?_ ?_⟩
      · rintro j x H1 H2 us hj k rfl ⟨e12, hy⟩ eD2 push2
        have e21 := e12.symm
        subst e21
        obtain ⟨e, he, eb, rfl, heb⟩ := Paired.getL hys hy
        refine ⟨rfl, _, rfl, eb, _, _, _, rfl, rfl, .inl (.inl (k.im.tup heb)), rfl, push2 _ _ Kp.refl ?_⟩
        have g1 : (wd1 sl)[j]? = some e.1 := by unfold wd1; rw [List.getElem?_map, he]; rfl
        rw [List.take_add_one, g1]
        unfold txs
        rw [List.map_append]
        rfl
      intro H6 us k6 hD6 t6
      subst t6
      have hwl : (wd1 sl).length = sl.length := by unfold wd1; rw [List.length_map]
      have htl2 : (txs (wd1 sl)).length = sl.length := by unfold txs; rw [List.length_map, hwl]
      rw [List.take_of_length_le (by omega)] at hD6
      have hD06 := k6.toSame _ _ hD5
      have hys6 := hys.im k6.im
      -- entries
      refine ⟨_, rfl, D0, ys, rfl, .inl (.inl hD06), fun D2 hD2 => lc_gen (walk_enum (xs := ys)) noA (fun i zs H => EntsV H zs (freshI sl i)) hD2 id (by omega) (fun i zs H _ k _ => .inl (.inl (k.toSame _ _ hD06))) .nil ?_ ?_⟩
      · rintro i x H7 H8 zs hi k7 hzs ⟨T', v1, v2, rfl, nT, rfl, e1, e2⟩ eD2 push skip
        cases (Option.some.inj e1)
        obtain ⟨en1, hen1, ea, rfl, hea⟩ := Paired.getL hys6 e2
        have s78 := same_upd (o := .tup [.int (i : Nat), .ref ea]) nT
        have hT8 : (upd H7 T' (.tup [.int (i : Nat), .ref ea])) T' = some (.tup [.int (i : Nat), .ref ea]) := upd_same
        generalize (upd H7 T' (.tup [.int (i : Nat), .ref ea])) = H8 at s78 hT8 ⊢
        have s68 : Same H6 H8 := k7.toSame.trans s78
        have hi2 : i < sl.length := by omega
        refine ⟨T', _, rfl, .inl (.inl hT8), rfl, _, _, rfl, _, _, rfl, rfl, rfl, ?_⟩
        refine ⟨_, rfl, ea, _, _, _, rfl, rfl, .inl (.inl (s68 _ _ hea)), rfl, _, rfl, _, rfl, _, rfl, D1, _, rfl, .inl (.inl (s68 _ _ hD6)), fun r3 nr3 => ?_⟩
        rw [cut_first _ _ (by omega)]
        have s9 := same_upd (o := .lst ((txs (wd1 sl)).take i)) nr3
        have hr9 : (upd H8 r3 (.lst ((txs (wd1 sl)).take i))) r3 = some (.lst (txs ((wd1 sl).take i))) := by
          rw [upd_same]
          unfold txs
          rw [List.map_take]
        generalize (upd H8 r3 (.lst ((txs (wd1 sl)).take i))) = H9 at s9 hr9 ⊢
        refine ⟨r3, _, rfl, .inl (.inl (.inl hr9)), rfl, txs_flat _, _, rfl, ?_⟩
        show if (!inV (.str (tx en1.1)) (txs ((wd1 sl).take i))) = true then _ else _
        rw [inV_txs]
        have s79 : Same H7 H9 := s78.trans s9
        have ewt : (wd1 sl).take i = wd1 (sl.take i) := by unfold wd1; rw [List.map_take]
        rw [ewt]
        have hfi : freshI sl (i + 1) = if en1.1 ∈ wd1 (sl.take i) then freshI sl i else freshI sl i ++ [en1] := by
          show (match sl[i]? with
            | some e => if e.1 ∈ wd1 (sl.take i) then freshI sl i else freshI sl i ++ [e]
            | none => freshI sl i) = _
          rw [hen1]
        by_cases hin : en1.1 ∈ wd1 (sl.take i)
        · refine iteND hin ?_
          refine skip _ (Kp.same s79) ?_
          rw [hfi, if_pos hin]
          exact hzs.im (Imm.of_same s79)
        · refine iteNDn hin ?_
          refine ⟨_, rfl, push _ _ (Kp.same s79) ?_⟩
          rw [hfi, if_neg hin]
          have i9 : Imm H9 (upd H9 D2 (.lst (zs ++ [.ref ea]))) := Imm.wr (s79 _ _ eD2) (fun z => z)
          exact Paired.snoc ⟨ea, rfl, i9.tup ((s68.trans s9) _ _ hea)⟩ (hzs.im ((Imm.of_same s79).trans i9))
      · intro H7 zs k7 eD7 hzs
        rw [hyl, ← hfr] at hzs
        have s27 : Same H2 H7 := k5.toSame.trans (k6.toSame.trans k7.toSame)
        have C7 := C2.same s27
        have D7 := DW.same s27
        have k27 := k2.trans (Kp.same (A := dA d a1) s27)
        have nD2 : H D2 = none := DW.fr k2 (by
          cases e9 : H2 D2 with
          | none => rfl
          | some o => rw [(k5.toSame.trans k6.toSame) _ _ e9] at hD2; cases hD2)
        refine ⟨_, rfl, c, _, rfl, DPut.k (k := Sum.inr "entries") C7.hc (by show 3 < sizeLine; omega), ?_⟩
        rw [csP]
        have nDc : D2 ≠ c := ne_of eD7 C7.hc (by intro z; cases z)
        have nlc : lt ≠ c := ne_of C7.hl C7.hc (by intro z; cases z)
        have i8 : Imm H7 (upd H7 c (.dK (csKV lt pt D2))) := Imm.wr C7.hc (fun z => z)
        have C8' : CaseAt (upd H7 c (.dK (csKV lt pt D2))) c lt pt D2 cs p (freshL sl) := ⟨upd_same, (upd_ne nlc).trans C7.hl, i8.tup C7.hp, ⟨zs, (upd_ne nDc).trans eD7, hzs.im i8⟩, C7.abc, C7.few, C7.pok, hsh.1⟩
        have k8 : Kp (dA d a1) H (upd H7 c (.dK (csKV lt pt D2))) := k27.bk nc0 C7.hc (fun z => z)
        have D8 : Draw (upd H7 c (.dK (csKV lt pt D2))) d a1 a2 := D7.bk D nc0 C7.hc (fun z => z)
        generalize (upd H7 c (.dK (csKV lt pt D2))) = H8 at C8' k8 D8 ⊢
        have es1 : es.length ≥ 1 := List.length_pos_iff.mpr hes
        refine ⟨StQ H8 p (freshL sl), ⟨_, rfl, _, rfl, c, lt, pt, D2, cs, p, freshL sl, rfl, C8', fun hne H' s => ⟨s, .inl ⟨rfl, hne⟩⟩, fun H' f M s h1 h2 => ⟨s, .inr ⟨f, M, rfl, h1, h2⟩⟩⟩, ?_⟩
        rintro fv H9 ⟨s9, hfv⟩
        exact ⟨D2, freshL sl, fv, _, _, _, _, _, _, _, by omega, rfl, k8.trans (Kp.same s9), D8.same s9, C8'.same s9, nD2, hfv⟩
    · refine ⟨_, rfl, rfl, false, rfl, iteF ?_⟩
      refine ⟨_, rfl, _, rfl, _, rfl, _, _, rfl, rfl, _, rfl, by show 3 ≤ sizeLine; omega, fun T nT => ?_⟩
      exact q _ T c lt pt en cs p es (bd + dr) (.ref f) M (k2.trans (Kp.new nT)) (D2.same (same_upd nT)) (C2.same (same_upd nT)) nc0 nl ne0 upd_same (by omega) (by omega) hM (by omega)
end
end Mw


set_option Elab.async false
set_option linter.all false
set_option maxRecDepth 100000
set_option maxHeartbeats 4000000
set_option pp.maxSteps 600
set_option pp.deepTerms false
namespace Mw
open PySem PySem.Spec PyProof.Rows L2
open C8 (Cal pe_c Mak pe_mk)
theorem cut_drop (xs : List V) (j : Nat) (h : j ≤ xs.length) : cutV xs (some (j : Int)) none = xs.drop j := by
  unfold cutV
  rw [HT.sIx_none, HT.sIx_nat, Nat.min_eq_left h, List.take_of_length_le (by rw [List.length_drop]; exact Nat.le_refl _)]
theorem kRows (K : PySem.W.Frag) {X : Cx} (h : X.K = K) {e : Expr} {ta : TE} {pos : Pos} {j : Nat} (T : Txt K X.mg) (hr : Room j X.A) (hk : 2 ≤ j) (he : PE X e ta) (hab : attributeBase e "rows" X.env (eval e X.env) = eval e X.env := by rfl) : PE X (.Attribute e "rows" pos) (tProp (He.ga K "Machine") (getSp (He.ga K "Machine") "m_rows") [] C8.E0 ta) := by
  subst h
  exact pe_pRows T hr hk he hab
theorem eqv_ans : ∀ as : List Ans, PyData.eqvAll (as.map dAns) (as.map dAns) = true
  | [] => by simp [PyData.eqvAll]
  | a :: as => by
    rw [List.map_cons, PyData.eqvAll, eqv_ans as]
    cases a with
    | none => simp [dAns, PyData.eqv]
    | some x => simp [dAns, PyData.eqv]
theorem dp_ans {K : PySem.W.Frag} {H : Hp} : ∀ as : List Ans, DpAll K H (as.map ansV) (as.map dAns)
  | [] => .nil
  | none :: as => .cons .non (dp_ans as)
  | some x :: as => .cons (.str _) (dp_ans as)
theorem lay_ans : ∀ {as : List Ans}, (∀ a ∈ as, ∀ x, a = some x → ∀ c ∈ x, c ∈ alphaL) → PyData.canLayAll0 (as.map dAns) = true
  | [], _ => by simp [PyData.canLayAll0]
  | a :: as, h => by
    rw [List.map_cons, PyData.canLayAll0, lay_ans fun b hb => h b (List.mem_cons_of_mem _ hb)]
    cases a with
    | none => simp [dAns, PyData.canLay0]
    | some x =>
      have := strOk_tx (h _ (List.mem_cons_self ..) x rfl)
      simp [dAns, PyData.canLay0, this]
theorem dep_ans : ∀ as : List Ans, PyData.depthAll (as.map dAns) = 0
  | [] => by simp [PyData.depthAll]
  | a :: as => by
    rw [List.map_cons, PyData.depthAll, dep_ans as]
    cases a <;> simp [dAns, PyData.depth]
theorem shaped_ans {as : List Ans} (h : ∀ a ∈ as, ∀ x, a = some x → ∀ c ∈ x, c ∈ alphaL) : SeqAt.shaped (.list (as.map dAns)) = true := by
  unfold SeqAt.shaped
  rw [PyData.canLay0, lay_ans h, PyData.depth, dep_ans]
  rfl
theorem told_abc {L : Lis} (ok : LisOk L) : ∀ {t : List Nat} {s : Sta}, ∀ a ∈ toldM L s t, ∀ x, a = some x → ∀ c ∈ x, c ∈ alphaL
  | [], s, a, ha, x, hx => by
    have h1 := List.mem_singleton.mp ha
    obtain ⟨en, hen, rfl⟩ := heard_word (h1.symm.trans hx)
    exact (ok.es.all en hen).abc
  | c :: t, s, a, ha, x, hx => by
    have ha2 : a ∈ heardM L s.row :: toldM L (stepM L.p L.es s c) t := ha
    rcases List.mem_cons.mp ha2 with z | z
    · obtain ⟨en, hen, rfl⟩ := heard_word (z.symm.trans hx)
      exact (ok.es.all en hen).abc
    · exact told_abc ok (t := t) a z x hx
theorem chg_len : ∀ as : List Ans, chg as ≤ as.length
  | [] => Nat.le_refl _
  | [_] => Nat.zero_le _
  | a :: b :: l => by
    have ih := chg_len (b :: l)
    show (if b = a then 0 else 1) + chg (b :: l) ≤ (b :: l).length + 1
    split <;> omega
theorem lastA {as : List Ans} (h : as ≠ []) : atI (as.map ansV) (-1) = some (ansV (as.getLastD none)) := by
  have e : as.map ansV = as.dropLast.map ansV ++ [ansV (as.getLast h)] := by
    rw [← List.map_singleton, ← List.map_append, List.dropLast_concat_getLast]
  rw [e, atI_last, List.getLastD_eq_getLast?, List.getLast?_eq_getLast h]
  rfl
theorem lastN {l : List Nat} (h : l ≠ []) : atI (natV l) (-1) = some (.int ((l.getLastD 0 : Nat) : Int)) := by
  have e : natV l = natV l.dropLast ++ [.int ((l.getLast h : Nat) : Int)] := by
    unfold natV
    rw [← List.map_singleton (f := fun (n : Nat) => V.int (n : Int)), ← List.map_append, List.dropLast_concat_getLast]
  rw [e, atI_last, List.getLastD_eq_getLast?, List.getLast?_eq_getLast h]
  rfl
section
variable {P : Program} {w : World} {K : PySem.W.Frag} {mg : Str → Option Value} {base : Heap}
/-! ### law -/
abbrev NLaw : List Str := ["_law_script", "_law_draw", "_law_turn", "_law_case_here", "_law_limit_here", "_law_found", "_law_listener_here", "_law_machine", "_law_p", "_law_q", "_law_first", "_law_ring", "_law_worths", "_law_k", "_law_stream", "_law_said", "_law_rows_here", "_law_shown", "_law_row", "_law_left", "_law_size", "_law_many", "_law_whole", "_law_late"]
theorem scLaw : FnScope NLaw ["_law_script"] (defScope sLaw) := ⟨rfl, rfl, rfl, by decide +kernel, rfl, by decide +kernel, by decide +kernel⟩
def spLaw (P : Program) (w : World) (K : PySem.W.Frag) : Sp := fun vs H Q _ => ∃ (a : Addr) (ns : List Int), vs = [.ref a] ∧ SqL K H a (ns.map V.int) ∧ ns.length ≤ 63 ∧ ∀ H', Q (.bl true) H'
theorem fnLaw (T : Txt K mg) {fd : FuncData} (F : FunD K dLaw.name dLaw.qual dLaw.params dLaw.body dLaw.scope (dLaw.dvs K) (dLaw.kws K) (dLaw.adr K) fd) : FnOk P w K mg base C8.CX0 11 (dLaw.adr K) fd ["_law_script"] (spLaw P w K) := by
  obtain ⟨fds, smF, ⟨smds, smD, smB⟩, _⟩ := fnSmallest (P := P) (w := w) (base := base) T
  obtain ⟨_, smK⟩ := dSmallest_fn T
  obtain ⟨fdr, raF, ⟨rads, raD, raB⟩⟩ := fnRate (P := P) (w := w) (base := base) T
  obtain ⟨_, raK⟩ := dRate_fn T
  obtain ⟨fdl, liF, liB⟩ := fnListenerCall (P := P) (w := w) (base := base) T
  refine F.ok scLaw (fun vs H Q E h => ?_) (fun cdv A outer s H vs Q E hr h => ?_)
  · obtain ⟨a, ns, rfl, _⟩ := h
    rfl
  · obtain ⟨a, ns, rfl, ha, hn, q⟩ := h
    refine ⟨_, PSs.nox (pss_cons (ps_set (i := 1) scLaw.nd rfl (.inl rfl) (pe_c (oLBegin T) hr (by decide) (by rfl) (pa_cons (pv 0) pa_nil)))
       (pss_cons (ps_for PassesOwn.never rfl (pi_range1 (by rfl) (f_range T) (pa_cons pe_int pa_nil)) (pg_name (i := 2) scLaw.nd rfl (.inl rfl))
       (pss_cons (ps_par (i := 3) (j := 4) (by rfl) scLaw.nd rfl rfl (by decide) rfl rfl (pa_cons (pe_c (oLSmall T) hr (by decide) (by rfl) (pa_cons (pv 1) (pa_cons pe_int (pa_cons pe_int pa_nil)))) (pa_cons (pe_c (oLLimit T) hr (by decide) (by rfl) (pa_cons (pv 1) pa_nil)) pa_nil)) (by rfl))
       (C8.pss_cut (ps_if (pt_cmpR op_eq (pv 2) pe_int (nomark _))
       (pss_one (ps_asg (pe_c (oLWide T) hr (by decide) (by rfl) (pa_cons (pv 1) (pa_cons pe_int pa_nil))) (pg_tup rfl (pgs_cons (pg_name (i := 3) scLaw.nd rfl (.inl rfl)) (pgs_cons (pg_name (i := 4) scLaw.nd rfl (.inl rfl)) (pgs_cons (pg_name (i := 5) scLaw.nd rfl (.inl rfl)) pgs_nil))))))
       pss_nil)
       (pss_cons (ps_set (i := 6) scLaw.nd rfl (.inl rfl) (pe_c (oLListener T) hr (by decide) (by rfl) (pa_cons (pv 3) (pa_cons (pv 4) pa_nil))))
       (pss_cons (ps_set (i := 7) scLaw.nd rfl (.inr rfl) (pe_call smF (hr.mono (by decide)) (by rfl) (gSmallest T) smK.kp smB smD pass0 (pa_cons (pv 6) pa_nil)))
       (pss_cons (ps_asg (pe_call raF hr (by rfl) (gRate T) raK.kp raB raD pass0 (pa_cons (pv 6) pa_nil)) (pg_tup rfl (pgs_cons (pg_name (i := 8) scLaw.nd rfl (.inl rfl)) (pgs_cons (pg_name (i := 9) scLaw.nd rfl (.inl rfl)) (pgs_cons (pg_name (i := 10) scLaw.nd rfl (.inl rfl)) (pgs_cons (pg_name (i := 11) scLaw.nd rfl (.inl rfl)) (pgs_cons (pg_name (i := 12) scLaw.nd rfl (.inl rfl)) pgs_nil)))))))
       (pss_cons (ps_for PassesOwn.never rfl (pi_range1 (by rfl) (f_range T) (pa_cons pe_int pa_nil)) (pg_name (i := 13) scLaw.nd rfl (.inl rfl))
       (pss_cons (ps_set (i := 14) scLaw.nd rfl (.inl rfl) (pe_c (oLLong T) hr (by decide) (by rfl) (pa_cons (pv 1) (pa_cons (pv 3) pa_nil))))
       (pss_cons (ps_par (i := 15) (j := 16) (by rfl) scLaw.nd rfl rfl (by decide) rfl rfl (pa_cons (pe_c (oLTold T) hr (by decide) (by rfl) (pa_cons (pv 6) (pa_cons (pv 14) pa_nil))) (pa_cons (pe_c (oLRows T) hr (by decide) (by rfl) (pa_cons (pv 7) (pa_cons (pv 14) pa_nil))) pa_nil)) (by rfl))
       (pss_cons (ps_setLc (i := 17) (own := [("_law_row", 18)]) (g := gName 18) rfl scLaw.nd rfl rfl (sw_true rfl rfl rfl (by decide +kernel)) (kPiL K rfl (pv 16)) (blkOk_by (own := [("_law_row", 18)]) (N := NLaw) (sc := defScope sLaw) (by decide +kernel)) (fun _ _ _ _ _ => (pg_name (i := 18) scLaw.nd rfl (.inl rfl))) (fun _ _ _ _ _ => pts_nil) (fun _ _ _ _ _ => (pe_ix (kIxT K rfl) (pe_ix (kIxT K rfl) (kRows K rfl T hr (by decide) (pv 7)) (pv 18) (fun _ _ => rfl)) pe_int (fun _ _ => rfl))))
       (pss_cons (ps_if (PW.pt (pw_or (pt_cmpR op_ne (pe_ix (kIxL K rfl) (pv 15) (pe_un un_neg pe_int) (fun _ _ => rfl)) (StX.pe_callO (pv 6) (callListener T) (liF.raw liB .nil) (hr.mono (by decide)) pass0 (pa_cons (pv 14) pa_nil)) (nomark _)) (pw_or1 (pt_cmpR (kNeD K rfl hr.units) (pv 17) (pv 15) (nomark _)))))
       (pss_one (ps_ret pe_bl))
       pss_nil)
       (pss_cons (ps_set (i := 19) scLaw.nd rfl (.inl rfl) (pe_op op_sub (pe_op op_mul (pv 9) (pe_c (oLChanges T) hr (by decide) (by rfl) (pa_cons (pv 15) pa_nil))) (pe_op op_mul (pv 8) (pe_callB call_len_str (by rfl) (f_len T) (by decide +kernel) (pa_cons (pv 14) pa_nil)))))
       (pss_one (ps_if (pt_cmpR op_gt (pv 19) (pe_op op_sub (pe_ix (kIxT K rfl) (pv 12) (pe_ix (kIxL K rfl) (pv 16) pe_int (fun _ _ => rfl)) (fun _ _ => rfl)) (pe_ix (kIxT K rfl) (pv 12) (pe_ix (kIxL K rfl) (pv 16) (pe_un un_neg pe_int) (fun _ _ => rfl)) (fun _ _ => rfl))) (nomark _))
       (pss_one (ps_ret pe_bl))
       pss_nil))))))))
       (pss_cons (ps_par (i := 20) (j := 21) (by rfl) scLaw.nd rfl rfl (by decide) rfl rfl (pa_cons (pe_c (oLReach T) hr (by decide) (by rfl) (pa_cons (pv 3) pa_nil)) (pa_cons pe_int pa_nil)) (by rfl))
       (pss_cons (ps_set (i := 22) scLaw.nd rfl (.inl rfl) (pe_c (oLTold T) hr (by decide) (by rfl) (pa_cons (pv 6) (pa_cons (pe_op op_add_str (pv 10) (pe_op op_mulS (pv 11) (pe_op op_add (pe_op op_add (pv 20) pe_int) (pv 21)))) pa_nil))))
       (pss_cons (ps_set (i := 23) scLaw.nd rfl (.inl rfl) (pe_slice (kSlL K rfl) (pv 22) (po_some (pe_op op_add (pe_callB call_len_str (by rfl) (f_len T) (by decide +kernel) (pa_cons (pv 10) pa_nil)) (pe_op op_mul (pe_op op_add (pv 20) pe_int) (pe_callB call_len_str (by rfl) (f_len T) (by decide +kernel) (pa_cons (pv 11) pa_nil))))) po_none))
       (pss_one (ps_if (pt_cmpR op_ne (pe_op op_mul (pv 9) (pe_c (oLChanges T) hr (by decide) (by rfl) (pa_cons (pv 23) pa_nil))) (pe_op op_mul (pe_op op_mul (pv 8) (pv 21)) (pe_callB call_len_str (by rfl) (f_len T) (by decide +kernel) (pa_cons (pv 11) pa_nil))) (nomark _))
       (pss_one (ps_ret pe_bl))
       pss_nil))))))))))))
       (pss_one (ps_ret pe_bl)))), ?_⟩
    have hsz : sizeLine = 16777216 := sizeLine_eq
    refine ⟨_, rfl, a, ns, rfl, ha, hn, fun H0 d a1 a2 s0 nd na1 D0 => ?_⟩
    refine ⟨2, rfl, by decide, by decide, for_it walk_range (fun i σ H2 => ∃ x2 x3 x4 x5 x6 x7 x8 x9 x10 x11 x12 x13 x14 x15 x16 x17 x18 x19 x20 x21 x22 x23, σ = [some (.ref a), some (.ref d), x2, x3, x4, x5, x6, x7, x8, x9, x10, x11, x12, x13, x14, x15, x16, x17, x18, x19, x20, x21, x22, x23] ∧ Kp (dA d a1) H0 H2 ∧ Draw H2 d a1 a2) ⟨_, _, _, _, _, _, _, _, _, _, _, _, _, _, _, _, _, _, _, _, _, _, rfl, Kp.refl, D0⟩ (fun _ _ _ _ _ => trivial) ?_ ?_⟩
    · rintro i x σ H2 H3 hi ⟨x2, x3, x4, x5, x6, x7, x8, x9, x10, x11, x12, x13, x14, x15, x16, x17, x18, x19, x20, x21, x22, x23, rfl, k2, D2⟩ ⟨e23, ex⟩
      have e32 := e23.symm
      subst e32
      have ex2 : x = .int (0 + (i : Int)) := ex
      subst ex2
      refine ⟨_, rfl, d, a1, a2, rfl, D2, fun H3 c lt pt en cs p es k3 D3 C3 nc nl ne h300 => ?_⟩
      have far : Far d a1 c lt en := ⟨D2.ne0 nc, D2.ne0 nl, D2.ne0 ne⟩
      refine ⟨_, rfl, d, a1, a2, rfl, D3, fun H4 lim k4 D4 l0 l9 => ⟨_, _, rfl, ?_⟩⟩
      have C4 := C3.draw far k4
      refine ⟨fun σ' H' => ∃ x5 x6 x7 x8 x9 x10 x11 x12 x13 x14 x15 x16 x17 x18 x19 x20 x21 x22 x23, ∃ c lt pt en cs p es lim M, σ' = [some (.ref a), some (.ref d), some (.int (0 + (i : Int))), some (.ref c), some (.int lim), x5, x6, x7, x8, x9, x10, x11, x12, x13, x14, x15, x16, x17, x18, x19, x20, x21, x22, x23] ∧ Kp (dA d a1) H0 H' ∧ Draw H' d a1 a2 ∧ CaseAt H' c lt pt en cs p es ∧ Far d a1 c lt en ∧ 0 ≤ lim ∧ lim ≤ 9999 ∧ Closed p es M ∧ M.length ≤ 2000, ?_, ?_⟩
      · refine ⟨_, rfl, rfl, _, rfl, ite2 (fun e => ?_) (fun e => ?_)⟩
        · refine ⟨_, rfl, d, a1, a2, rfl, D4, fun H5 T c lt pt en cs p es lim fv M k5 D5 C5 nc nl ne hT l0 l9 hM hM2 => ?_⟩
          refine ⟨T, _, rfl, .inl (.inl hT), rfl, _, _, rfl, _, _, rfl, _, _, rfl, rfl, ?_⟩
          exact ⟨_, _, _, _, _, _, _, _, _, _, _, _, _, _, _, _, _, _, _, c, lt, pt, en, cs, p, es, lim, M, rfl, k2.trans (k3.trans (k4.trans k5)), D5, C5, ⟨D4.ne0 nc, D4.ne0 nl, D4.ne0 ne⟩, l0, l9, hM, hM2⟩
        · exact ⟨_, _, _, _, _, _, _, _, _, _, _, _, _, _, _, _, _, _, _, c, lt, pt, en, cs, p, es, lim, nearM p es, rfl, k2.trans (k3.trans k4), D4, C4, far, l0, l9, near_closed C4.pok, near_few C4.pok C4.eok h300⟩
      clear C4 D4 k4 far h300 nc nl ne C3 D3 k3 D2 k2 l0 l9
      rintro σ' H5 ⟨x5, x6, x7, x8, x9, x10, x11, x12, x13, x14, x15, x16, x17, x18, x19, x20, x21, x22, x23, c, lt, pt, en, cs, p, es, lim, M, rfl, k5, D5, C5, far, l0, l9, hM, hM2⟩
      have ok : LisOk ⟨p, es, lim⟩ := ⟨C5.pok, C5.eok, ⟨l0, l9⟩⟩
      refine ⟨_, rfl, _, rfl, c, lt, pt, en, cs, p, es, lim, rfl, C5, l0, l9, fun H6 a6 s6 hL6 => ?_⟩
      refine ⟨_, rfl, a6, ⟨p, es, lim⟩, M, rfl, hL6, ok, ⟨hM, hM2⟩, fun H7 m rows s7 hm7 hR => ?_⟩
      refine ⟨_, rfl, a6, ⟨p, es, lim⟩, M, rfl, hL6.im (Imm.of_same s7), ok, ⟨hM, hM2⟩, fun H8 T8 pp qq first ring wt ws rows2 s8 hT8 hwt hR2 rok => ?_⟩
      have er : rows2 = rows := hR2.uniq hR
      subst er
      refine ⟨T8, _, rfl, .inl (.inl hT8), rfl, _, _, rfl, _, _, rfl, _, _, rfl, _, _, rfl, _, _, rfl, rfl, ?_⟩
      obtain ⟨grp, S⟩ := mach_sim ok hM hM2 hR
      obtain ⟨hrn, hr0, mok⟩ := mach_rows ok hM hM2 hR
      have rowok := S.rowsOk
      have hL8 := hL6.im (Imm.of_same (s7.trans s8))
      have hm8 := hm7.im (Imm.of_same s8)
      have C8' := C5.same (s6.trans (s7.trans s8))
      have D8 := D5.same (s6.trans (s7.trans s8))
      have k8 : Kp (dA d a1) H0 H8 := k5.trans (Kp.same (s6.trans (s7.trans s8)))
      clear hL6 hm7 s8 s7 s6 C5 D5 k5 hT8
      refine ⟨2, rfl, by decide, by decide, for_it walk_range (fun j σ H9 => ∃ x13 x14 x15 x16 x17 x18 x19 x20 x21 x22 x23, σ = [some (.ref a), some (.ref d), some (.int (0 + (i : Int))), some (.ref c), some (.int lim), x5, some (.ref a6), some (.ref m), some (.int ((pp : Nat) : Int)), some (.int ((qq : Nat) : Int)), some (.str (tx first)), some (.str (tx ring)), some (.ref wt), x13, x14, x15, x16, x17, x18, x19, x20, x21, x22, x23] ∧ Kp (dA d a1) H8 H9 ∧ Draw H9 d a1 a2) ⟨_, _, _, _, _, _, _, _, _, _, _, rfl, Kp.refl, D8⟩ (fun _ _ _ _ _ => trivial) ?_ ?_⟩
      · rintro j x σ H9 HA hj ⟨x13, x14, x15, x16, x17, x18, x19, x20, x21, x22, x23, rfl, k9, D9⟩ ⟨e9A, ex⟩
        have eA9 := e9A.symm
        subst eA9
        have C9 := C8'.draw far k9
        refine ⟨_, rfl, _, rfl, d, a1, a2, c, lt, pt, en, cs, p, es, rfl, D9, C9, far, fun HA st kA DA stl sta => ?_⟩
        have k8A := k9.trans kA
        have hLA := hL8.im k8A.im
        have hmA := hm8.im k8A.im
        have hwtA := k8A.im.tup hwt
        refine ⟨_, rfl, _, rfl, a6, ⟨p, es, lim⟩, st, rfl, hLA, ok, sta, by omega, fun HB r1 sB nr1 hr1 => ?_⟩
        refine ⟨_, rfl, _, rfl, m, rows2, st, rfl, hmA.im (Imm.of_same sB), rowok, hr0, sta, by omega, fun HC r2 sC nr2 hr2 => ⟨_, _, rfl, ?_⟩⟩
        have hr1C := sC _ _ hr1
        have sAC := sB.trans sC
        obtain ⟨dm, rt, vs, hm1, hrt, hrows⟩ := hmA.im (Imm.of_same sAC)
        obtain ⟨told1, told2, told3, told4⟩ := S.told S.start sta
        rw [S.g0] at told1 told2 told4
        have hrl := rowsP_len (rows := rows2) (t := st) (r := 0)
        have htl := toldM_len (L := ⟨p, es, lim⟩) (t := st) (s := startM p es)
        have hnl : (natV (rowsP rows2 0 st)).length = st.length + 1 := by unfold natV; rw [List.length_map, hrl]
        -- shown
        refine ⟨_, rfl, r2, rfl, ⟨_, .inl (.inl hr2)⟩, fun D0 hD0 => lc_map (walk_list (xs := natV (rowsP rows2 0 st))) noA (fun i ys H => ys = (((rowsP rows2 0 st).take i).map (ansR rows2)).map ansV) hD0 id (by omega) (fun i ys H _ k _ => .inl (.inl (k.toSame _ _ hr2))) rfl ?_ ?_⟩
        · rintro i x HD HE ys hi k rfl ⟨eDE, hy⟩ eD push
          have eED := eDE.symm
          subst eED
          obtain ⟨g, hg, rfl⟩ : ∃ g, (rowsP rows2 0 st)[i]? = some g ∧ V.int (g : Int) = x := by
            unfold natV at hy
            rw [List.getElem?_map] at hy
            obtain ⟨z, hz, e⟩ := Option.map_eq_some_iff.mp hy
            exact ⟨z, hz, e⟩
          have hgl := rowsP_mem rowok hr0 sta g (List.mem_of_getElem? hg)
          have hgr := List.getElem?_eq_getElem hgl
          obtain ⟨rv, hrv, b, bt, rfl, hb, hbt⟩ := Paired.get hrows hgr
          refine ⟨rfl, .ref m, rfl, gp (k.im.ins hm1) rfl ⟨_, rfl, rt, _, _, _, rfl, rfl, .inl (.inl (k.im.tup hrt)), atI_nat hrv, b, _, _, _, rfl, rfl, .inl (.inl (k.im.tup hb)), rfl, push _ _ Kp.refl ?_⟩⟩
          rw [List.take_add_one, hg, List.map_append, List.map_append]
          have e9 : ansR rows2 g = (rows2[g]).1 := by unfold ansR; rw [List.getD_eq_getElem?_getD, hgr]; rfl
          show _ = _ ++ [ansV (ansR rows2 g)]
          rw [e9]
        intro HD ys kD hD2 tD
        subst tD
        rw [List.take_of_length_le (by omega), ← told1] at hD2
        have sAD := sAC.trans kD.toSame
        have hr1D := kD.toSame _ _ hr1C
        have hr2D := kD.toSame _ _ hr2
        have hLD := hLA.im (Imm.of_same sAD)
        have hwtD := sAD _ _ hwtA
        obtain ⟨dl, sp, hl1, hl2⟩ := id hLD
        have tne : toldM ⟨p, es, lim⟩ (startM p es) st ≠ [] := fun z => by
          rw [z] at htl
          simp at htl
        have rne : rowsP rows2 0 st ≠ [] := fun z => by
          rw [z] at hrl
          simp at hrl
        -- the first test
        refine ⟨_, rfl, _, rfl, r1, _, _, _, rfl, rfl, .inl (.inl hr1D), lastA tne, _, rfl, a6, rfl, _, rfl, .inr ⟨_, _, hl1⟩, a6, ⟨p, es, lim⟩, st, rfl, hLD, ok, sta, by omega, fun HE sE => ⟨scal_ans _ _, _, rfl, ?_⟩⟩
        rw [toldM_last, decide_eq_true (rfl : ansV (heardM ⟨p, es, lim⟩ (runM p es (startM p es) st).row) = _)]
        refine iteF ?_
        have hD2E := sE _ _ hD2
        have hr1E := sE _ _ hr1D
        have hr2E := sE _ _ hr2D
        have hwtE := sE _ _ hwtD
        refine ⟨_, rfl, _, rfl, .list ((toldM ⟨p, es, lim⟩ (startM p es) st).map dAns), .list ((toldM ⟨p, es, lim⟩ (startM p es) st).map dAns), .lst (.inl (.inl hD2E)) (dp_ans _), .lst (.inl (.inl hr1E)) (dp_ans _), shaped_ans (told_abc ok), shaped_ans (told_abc ok), false, by rw [PyData.eqv, eqv_ans]; rfl, iteF ?_⟩
        have hcl := chg_len (toldM ⟨p, es, lim⟩ (startM p es) st)
        rw [toldM_len] at hcl
        have hcl2 : chgP rows2 0 st ≤ st.length + 1 := by rw [← told2]; exact hcl
        have hstl := tx_len st
        refine ⟨_, rfl, _, rfl, r1, _, rfl, hr1E, by rw [toldM_len]; omega, fun HF sF => ⟨_, _, rfl, rfl, .inr ⟨by omega, Int.lt_of_le_of_lt (Int.ofNat_le.mpr hcl) (by omega)⟩, _, rfl, _, rfl, _, rfl, by omega, _, _, rfl, rfl, .inr ⟨by omega, by omega⟩, _, _, rfl, rfl, ?_⟩⟩
        have hr2F := sF _ _ hr2E
        have hwtF := sF _ _ hwtE
        have hpl := rowok.path hr0 sta
        have wl := rok.wl
        refine ⟨_, rfl, _, rfl, _, rfl, r2, _, _, _, rfl, rfl, .inl (.inl hr2F), natI (j := 0) (by omega), wt, _, _, _, rfl, rfl, .inl (.inl hwtF), getI (j := (rowsP rows2 0 st).getD 0 0) (by rw [rowsP_head]; omega), _, rfl, _, rfl, _, rfl, r2, _, _, _, rfl, rfl, .inl (.inl hr2F), lastN rne, wt, _, _, _, rfl, rfl, .inl (.inl hwtF), getI (j := (rowsP rows2 0 st).getLastD 0) (by rw [rowsP_last]; omega), _, _, rfl, rfl, _, _, rfl, rfl, _, rfl, ?_⟩
        have htele := tele rowok rok.w hr0 sta
        rw [rowsP_head, rowsP_last, told2, hstl]
        refine iteDn (fun z => ?_) ?_
        · have z2 : (qq : Int) * ((chgP rows2 0 st : Nat) : Int) - (pp : Int) * (st.length : Int) > gW ws 0 - gW ws (rowPath rows2 0 st) := z
          omega
        · exact ⟨_, _, _, _, _, _, _, _, _, _, _, rfl, k9.trans (kA.trans (Kp.same (sAD.trans (sE.trans sF)))), DA.same (sAD.trans (sE.trans sF))⟩
      · rintro σ H9 ⟨x13, x14, x15, x16, x17, x18, x19, x20, x21, x22, x23, rfl, k9, D9⟩
        have C9 := C8'.draw far k9
        have hL9 := hL8.im k9.im
        have h50 := reach_50 C9.pok C9.eok
        have fl := rok.fl
        have rl := rok.rl
        have hfl := tx_len first
        have hrl := tx_len ring
        have hlate : qq * chg (toldM ⟨p, es, lim⟩ (runM p es (startM p es) (first ++ timesL ring (reach p es + 1))) (timesL ring 20)) = pp * (20 * ring.length) := rok.late ok S 20
        refine ⟨_, rfl, c, lt, pt, en, cs, p, es, rfl, C9, fun HA sA => ⟨_, _, rfl, ?_⟩⟩
        have htn : (((reach p es : Nat) : Int) + 1 + 20).toNat = reach p es + 1 + 20 := by omega
        have hmul : (reach p es + 1 + 20) * ring.length ≤ 71 * 2000 := Nat.mul_le_mul (by omega) rl
        have htl := timesL_len ring (reach p es + 1 + 20)
        refine ⟨_, rfl, _, rfl, _, rfl, _, rfl, _, _, rfl, rfl, _, rfl, _, _, rfl, rfl, ring, _, rfl, rfl, by omega, by omega, by omega, ?_⟩
        rw [htn, rep_times]
        refine ⟨_, _, rfl, rfl, by rw [tx_len, tx_len, htl]; omega, ?_⟩
        rw [tx_app]
        refine ⟨a6, ⟨p, es, lim⟩, first ++ timesL ring (reach p es + 1 + 20), rfl, hL9.im (Imm.of_same sA), ok, fun y hy => (List.mem_append.mp hy).elim (rok.fa y) fun z => rok.ra y (timesL_mem z), by rw [List.length_append, htl]; omega, fun HB r1 sB nr1 hr1 => ?_⟩
        have hsplit : first ++ timesL ring (reach p es + 1 + 20) = (first ++ timesL ring (reach p es + 1)) ++ timesL ring 20 := by rw [timesL_add, List.append_assoc]
        have hprel : (first ++ timesL ring (reach p es + 1)).length = first.length + (reach p es + 1) * ring.length := by rw [List.length_append, timesL_len]
        have hmul2 : (reach p es + 1) * ring.length ≤ (reach p es + 1 + 20) * ring.length := Nat.mul_le_mul_right _ (by omega)
        refine ⟨_, rfl, _, rfl, _, rfl, by omega, _, rfl, _, _, rfl, rfl, _, rfl, _, rfl, by omega, _, _, rfl, rfl, .inl ⟨by omega, by omega⟩, _, _, rfl, rfl, _, rfl, r1, _, rfl, .inl (.inl hr1), fun r2 nr2 => ?_⟩
        have ecast : (((tx first).length : Nat) : Int) + (((reach p es : Nat) : Int) + 1) * (((tx ring).length : Nat) : Int) = ((first.length + (reach p es + 1) * ring.length : Nat) : Int) := by
          rw [hfl, hrl, Int.natCast_add, Int.natCast_mul, Int.natCast_add]
          rfl
        have hcut : cutV ((toldM ⟨p, es, lim⟩ (startM p es) (first ++ timesL ring (reach p es + 1 + 20))).map ansV) (some ((((tx first).length : Nat) : Int) + (((reach p es : Nat) : Int) + 1) * (((tx ring).length : Nat) : Int))) none = (toldM ⟨p, es, lim⟩ (runM p es (startM p es) (first ++ timesL ring (reach p es + 1))) (timesL ring 20)).map ansV := by
          rw [ecast, cut_drop _ _ (by rw [List.length_map, toldM_len, List.length_append, htl]; omega), ← List.map_drop, hsplit, ← hprel, toldM_drop]
        have s2 := same_upd (o := .lst (cutV ((toldM ⟨p, es, lim⟩ (startM p es) (first ++ timesL ring (reach p es + 1 + 20))).map ansV) (some ((((tx first).length : Nat) : Int) + (((reach p es : Nat) : Int) + 1) * (((tx ring).length : Nat) : Int))) none)) nr2
        have hr2 : (upd HB r2 (.lst (cutV ((toldM ⟨p, es, lim⟩ (startM p es) (first ++ timesL ring (reach p es + 1 + 20))).map ansV) (some ((((tx first).length : Nat) : Int) + (((reach p es : Nat) : Int) + 1) * (((tx ring).length : Nat) : Int))) none))) r2 = some (.lst ((toldM ⟨p, es, lim⟩ (runM p es (startM p es) (first ++ timesL ring (reach p es + 1))) (timesL ring 20)).map ansV)) := by
          rw [upd_same, hcut]
        have hl20 := timesL_len ring 20
        have hcl := chg_len (toldM ⟨p, es, lim⟩ (runM p es (startM p es) (first ++ timesL ring (reach p es + 1))) (timesL ring 20))
        have htl3 : (toldM ⟨p, es, lim⟩ (runM p es (startM p es) (first ++ timesL ring (reach p es + 1))) (timesL ring 20)).length = (timesL ring 20).length + 1 := toldM_len
        clear hcut
        generalize toldM ⟨p, es, lim⟩ (runM p es (startM p es) (first ++ timesL ring (reach p es + 1))) (timesL ring 20) = as at hr2 hcl hlate htl3
        generalize timesL ring 20 = t20 at hl20 htl3
        generalize (upd HB r2 (.lst (cutV ((toldM ⟨p, es, lim⟩ (startM p es) (first ++ timesL ring (reach p es + 1 + 20))).map ansV) (some ((((tx first).length : Nat) : Int) + (((reach p es : Nat) : Int) + 1) * (((tx ring).length : Nat) : Int))) none))) = HB2 at s2 hr2 ⊢
        refine ⟨_, rfl, _, rfl, r2, as, rfl, hr2, by omega, fun HC sC => ⟨_, _, rfl, rfl, .inr ⟨by omega, by omega⟩, _, rfl, _, rfl, _, _, rfl, rfl, .inr ⟨by decide, by decide⟩, _, rfl, _, rfl, by omega, _, _, rfl, rfl, .inr ⟨by omega, by omega⟩, rfl, _, rfl, ?_⟩⟩
        refine iteND ?_ ?_
        · have h1 : ((qq * chg as : Nat) : Int) = ((pp * (20 * ring.length) : Nat) : Int) := congrArg _ hlate
          rw [Int.natCast_mul, Int.natCast_mul, Int.natCast_mul, ← Int.mul_assoc] at h1
          rw [hrl]
          exact congrArg V.int h1
        · exact ⟨_, _, _, _, _, _, _, _, _, _, _, _, _, _, _, _, _, _, _, _, _, _, rfl, k8.trans (k9.trans (Kp.same (sA.trans (sB.trans (s2.trans sC))))), D9.same (sA.trans (sB.trans (s2.trans sC)))⟩
    · rintro σ H2 ⟨x2, x3, x4, x5, x6, x7, x8, x9, x10, x11, x12, x13, x14, x15, x16, x17, x18, x19, x20, x21, x22, x23, rfl, k2, D2⟩
      exact q H2
end
end Mw


set_option Elab.async false
set_option linter.all false
set_option maxRecDepth 100000
set_option maxHeartbeats 0
namespace Mw
open PySem PySem.Spec PyProof.Rows L2
theorem lawName : (HandSHeadRun.topDef R.prog 112).name = ("law" : PySem.Str) := by kernel_rfl
theorem facts {P : Program} {w : World} {K : PySem.W.Frag} {h : Heap} {mg : Str → Option Value} {f : Addr} (X : K.In h) (G : h.Ns mainGlobals mg) (hfa : mg ("law" : Str) = some (.ref f)) (c : SaysM fa fn ex K) :
    ∃ fd : FuncData, (∀ (s : Shared) (v : Value), BindsTo s fd ⟨[v], []⟩ [("_law_script", v)]) ∧ ∀ base : Heap, K.In base → base.Ns mainGlobals mg → FnOk P w K mg base C8.CX0 11 f fd ["_law_script"] (spLaw P w K) := by
  have T : Txt K mg := ⟨c, h, X, G⟩
  obtain ⟨fd, F⟩ := dLaw_fn T
  have e := hfa.symm.trans (gLaw T)
  cases e
  have b := FunD.bindsA (ps := ["_law_script"]) F fun _ _ _ _ _ _ us hl => match us, hl with | [_], _ => rfl
  exact ⟨fd, fun s v => b s [v] rfl, fun base _ _ => fnLaw T F⟩
end Mw
open PySem PySem.W PySem.Calls PyProof.Rows
theorem PySem.Challenge.cw_meantword_k71_whole_changes_in_long_stre_holds : PySem.Challenge.rw_meantword_k71_whole_changes_in_long_stre.Holds := by
  w_on; o_law
  refine HandSHeadRun.head_any (r := Mw.R) (q := view Mw.R.prog [112]) (H := Mw.hk) (ob := Mw.ob) (M := 60000) (loose := Mw.names) (d := HandSHeadRun.topDef Mw.R.prog 112) (kwd := []) Mw.ob_eq
    (by kernel_rfl) (fun s => by kernel_rfl) Mw.run (by kernel_rfl) (by kernel_rfl) (by kernel_rfl) (by rfl) (by first | assumption | decide +kernel) (by decide +kernel) ⟨rfl, rfl, rfl, rfl, rfl, by decide +kernel⟩ ?hw ?hc
  case hw => w_witness2
  case hc =>
    refine L2.walk_ofE (l := PySem.Challenge.rw_meantword_k71_whole_changes_in_long_stre) (n := 63) (k := 11) (x := "_law_script") (CX := C8.CX0) rfl (by decide) (by kernel_rfl) ⟨rfl, by decide, by decide⟩ ?F (fun _ _ _ _ z => z)
    intro w mg fa h Y G hmg0
    obtain ⟨K, KX, c⟩ := Y
    have hmg : mg ("law" : PySem.Str) = some (.ref fa) := by
      rw [← Mw.lawName]
      exact hmg0
    obtain ⟨fd, hb, hF⟩ := Mw.facts (P := (PySem.Challenge.rw_meantword_k71_whole_changes_in_long_stre).prog) (w := w) KX G hmg c
    exact ⟨K, fd, Mw.spLaw _ w K, KX, hb, fun H a ns hl _ hS => ⟨a, ns, rfl, hS, hl, fun _ => rfl⟩, hF⟩

